import PyProof.Rows.All
import Wide.All
import OpenK.AllK
import Wide.FinOn
import KE.KExcSuper
import HandS.List
import HandS.Exc
import HandS.ExcOwn
import HandS.ExcInit
import HandS.ExcField
import HandS.WordsExc
import HandS.ForMost
import HandS.Wide
import HandS.IsInst
import HandS.MakeKwOnly
import HandS.ClsMeth
import KE.Datum
import KE.KExcLine
import HandS.TryOnly
import HandS.Evl
import HandS.Comp
import HandS.Star
import HandS.More
import HandS.DeepEq
import HandS.ExcIs
import HandS.ExcValue
import HandS.Text
import HandS.FStr
import KE.KCallOwn
import PyProof.StrLawsChain
import PyProof.Rows.StrItems
import PySem.Challenge.RW_walkmarks_k22_whole_guard_texts
set_option Elab.async false
set_option linter.all false
set_option maxRecDepth 400000
set_option maxHeartbeats 4000000
/-! ErA: own error classes whose __init__ first asks super().__init__(a text) and then keeps its arguments as fields. -/
namespace PySem
namespace Er
open PySem.W PySem.Calls PyProof.Rows PySem.HandSPX
/-! the text -/
def supCall (a1 a2 a3 a4 a5 a6 : Pos) (t : Str) : Stmt :=
  .Expr (.Call (.Attribute (.Call (.Name "super" a1) [] [] a2) "__init__" a3) [.Constant (.str t) 0 a4] [] a5) a6
/-- what the written part K says of the super() of a def of the class at C -/
structure SupTxt (prog : Program) (K : Frag) (C cda cc : Addr) (B newId initId : String) (bmB : List Value) : Prop where
  code : ∃ ccl cdd ccs, ∃ (vs : Array Value) (file : Str) (tf : Tok), K.lookup cda = some ⟨ccl, cdd, .fields vs, ccs⟩ ∧ vs[2]? = some (.str file tf) ∧ ((prog.main.file : Str) == file) = true
  cell : ∃ cl cld csl, K.lookup cc = some ⟨cl, cld, .cell (some (.ref C)), csl⟩
  cls : ∃ cd, clsIn K C = some cd
  sub : mroIn K C (.ref C) = some true
  noS : nsIn K mainGlobals "super" = some none
  noT : nsIn K cStatics "thirdparty.any" = some none
  top : (prog.main.scope.names.lookup ("super" : Str)).isSome = false
  sup : ks_superIn K C C "__init__" = some (some (.builtin initId))
  base : subIn K (.ref C) (.type B) = some true
  exc : excInitIn K C bmB newId = true
section
variable {prog : Program} {w : World} {A : Around} {E : Value → Shared → Prop} {K : Frag} {mg mb : Str → Option Value} {C fI cda cc : Addr} {B newId initId : String} {bmB : List Value}
theorem er_loadG {s : Shared} {env : Env} {Q : Value → Shared → Prop} (hk : env.scope.kind = .function) (hx : env.kindOf "super" = some .globalImplicit) (hg : s.heap.Ns env.globals mg) (hb : s.heap.Ns env.builtins mb)
    (n : mg "super" = none) (b : mb "super" = some (.type "super")) (h : Q (.type "super") s) : wpAny (model prog w) A (loadName env "super") Q E s :=
  ks_loadName_global hk hx (loadGlobal_builtin (env := env) hg n hb b h)
/-- super().__init__(t), then the rest -/
theorem er_super {h₀ h : Heap} {g : Array GenState} {d : Drawn} {tk : Nat} {os : OsState} {x t0 L : Addr} {m : Str → Option Value} {q : Str} {scope : Scope} {full rest : List Stmt} {fd : FuncData} {oc : Value} {od : Option Addr} {osl : Array (Option Value)} {ar : Arg}
    {a1 a2 a3 a4 a5 a6 : Pos} {t : Str} {Q : Flow → Shared → Prop}
    (T : SupTxt prog K C cda cc B newId initId bmB) (KF : KxsFacts B initId) (FB : ExcBaseFacts B newId initId bmB) (F : Fr h₀ L h m) (X₀ : K.In h₀) (hx : News h₀ L h [(x, excObj C t0 none .none)])
    (hg : h₀.Ns mainGlobals mg) (hb : h₀.Ns builtinsNs mb) (hmb : mb "super" = bootBuiltins "super")
    (hf : K.lookup fI = some ⟨oc, od, .func fd, osl⟩) (hp : (fd.params.posonlyargs ++ fd.params.args).head? = some ar) (har : m ar.arg = some (.ref x)) (hks : scope.names.lookup ("super" : Str) = some .globalImplicit)
    {pl : Sem Bool} (he : eval (.Call (.Attribute (.Call (.Name "super" a1) [] [] a2) "__init__" a3) [.Constant (.str t) 0 a4] [] a5) (ksEnv q scope L fI (.ref cda) cc) = (do
      let ov ← attributeBase (.Call (.Name "super" a1) [] [] a2) "__init__" (ksEnv q scope L fI (.ref cda) cc) (eval (.Call (.Name "super" a1) [] [] a2) (ksEnv q scope L fI (.ref cda) cc))
      standAt a3.atName
      let (f, first) ← holding [ov] (getMethod ov "__init__" pl)
      callWith a5 f first (backTo a5 (starEach [.Constant (.str t) 0 a4] (ksEnv q scope L fI (.ref cda) cc))) []))
    (hkc : scope.names.lookup ("__class__" : Str) = some .free) (hka : scope.names.lookup ar.arg = some .local) (hk : scope.kind = .function)
    (hq : ∀ h' tk' t', Fr h₀ L h' m → h'.get? x = some (excObj C t' none .none) → wpAny (model prog w) A (execs rest (ksEnv q scope L fI (.ref cda) cc)) Q E ⟨h', g, d, tk', os⟩) :
    _root_.PySem.wpAt (model prog w) A (.func full (ksEnv q scope L fI (.ref cda) cc)) (execs (supCall a1 a2 a3 a4 a5 a6 t :: rest) (ksEnv q scope L fI (.ref cda) cc)) Q E ⟨h, g, d, tk, os⟩ := by
  obtain ⟨ccl, cdd, ccs, vs, file, tf, hcode, hvs, hfile⟩ := T.code
  obtain ⟨cl, cld, csl, hcell⟩ := T.cell
  obtain ⟨cd, hD⟩ := T.cls
  have X : K.In h := X₀.keeps F.keep
  have I : InstAt h x (excObj C t0 none .none) C none := .of_exc0 hx (by simp)
  obtain ⟨oD, hD1, hD2⟩ : ∃ oD, h.get? C = some oD ∧ oD.data = .cls cd := by
    unfold clsIn at hD
    split at hD
    · rename_i c d cd' sl ho
      cases hD
      exact ⟨_, X _ _ ho, rfl⟩
    · cases hD
  refine ks_wpAt_execs_cons (ks_wpAt_Expr_any (ks_wpAt_MethodCall ?_ he) ?_ (by rfl))
  · refine ks_wpAt_super_base (env := ksEnv q scope L fI (.ref cda) cc) hks hkc (by decide) rfl (X _ _ hf) rfl hp rfl (X _ _ hcode) rfl hvs hfile T.top ?_
    refine er_loadG (env := ksEnv q scope L fI (.ref cda) cc) hk hks (hg.keeps F.keep) (hb.keeps F.keep) (mg_none_of X₀ hg T.noS) (hmb.trans (by first | rfl | decide +kernel)) ⟨rfl, ?_⟩
    refine wpAny_loadName_free hk hkc rfl ⟨_, X _ _ hcell, rfl⟩ ?_
    refine wpAny_loadName_local hk hka F.ns har ?_
    refine ks_wpAny_isType_cls hD1 hD2 ⟨rfl, ?_⟩
    refine ks_wpAny_call_super hD1 hD2 I.at_ I.cls (fun c e => ?_) (looks_mroIn X T.sub) (fun h' e k => ?_)
    · cases e
    obtain ⟨F1, N1, l1⟩ := ks_newsPush (s := ⟨h, g, d, tk, os⟩) F hx rfl e k
    have I1 : InstAt h' x (excObj C t0 none .none) C none := .of_exc0 N1 (by simp)
    refine kxs_method (s := ⟨h', g, d, tk, os⟩) (D := C) (x := x) (C := C) KF F1 X₀ N1 (by simp) I1 T.noT T.sup T.base (by decide) (fun u h2 F2 N2 l2 => ?_)
    refine kxs_callWith1 (u := u) (x := x) (i := initId) N2 (by simp) ?_
    refine spliced_cons ?_
    refine Calls.Constant_str (pos := a4) (k := 0) ?_
    refine spliced_nil ?_
    refine ⟨kxs_at N2 (by simp), ?_⟩
    have ne1 : h.objs.size ≠ x := fun z => by
      have := l1 (x, excObj C t0 none .none) (by simp)
      exact absurd (show x < h.objs.size from this) (by rw [z]; exact Nat.lt_irrefl _)
    have ne2 : u ≠ x := fun z => by
      have := l2 (x, excObj C t0 none .none) (by simp)
      exact absurd (show x < u from this) (by rw [z]; exact Nat.lt_irrefl _)
    refine kxs_call (u := u) (x := x) (C := C) (t := t0) (dv := none) (c2 := .none) (B := B) (newId := newId) (i := initId) F2 X₀ N2 FB T.exc (by simp) (.tail ne2 (.tail ne1 (.head (by simp)))) (by rw [sizeLine_eq]; exact (by decide : 1 ≤ 16777216)) (fun t' h3 F3 N3 _ => ?_)
    refine wpAt_of_wpAny (hq h3 _ t' F3 (N3 (x, excObj C t' none .none) (by simp)).1)
  · simp [interactive, hk]
end
end Er
end PySem
namespace PySem
namespace Er
open PySem.W PySem.Calls PyProof.Rows PySem.HandSPX
section
variable {prog : Program} {w : World} {A : Around} {E : Value → Shared → Prop} {K : Frag} {C : Addr} {B : String} {bmB : List Value} {hp : Heap} {g : Array GenState} {d : Drawn} {t : Nat} {os : OsState}
theorem taker_none {f : Str} (ha : findIn K (.ref C) f = some none) : takerIn K C f = some none := by
  unfold takerIn
  rw [ha]
  rfl
/-- x.f = v, the first field of an error that is being made -/
theorem er_set_new {x t0 : Addr} {f : Str} {v : Value} {Q : Unit → Shared → Prop} (SF : StoreFacts B bmB "object.__setattr__" "object") (X : K.In hp) (hx : hp.get? x = some (excObj C t0 none .none))
    (hs : findIn K (.ref C) "__setattr__" = some (some (.builtin "object.__setattr__"))) (ho : excOver K C bmB = true) (hh : hasDictIn K C = true) (ha : findIn K (.ref C) f = some none)
    (hq : ∀ h' tk' dx, (∀ b o, b ≠ x → hp.get? b = some o → h'.get? b = some o) → hp.objs.size ≤ dx → dx ≠ x → h'.get? x = some (excObj C t0 (some dx) .none) →
      h'.Ns1 dx (fun y => if y = f then some v else none) → Q () ⟨h', g, d, tk', os⟩) : wpAny (model prog w) A (setAttr (.ref x) f v) Q E ⟨hp, g, d, t, os⟩ := by
  obtain ⟨cd, hc, hd'⟩ := any_some hh
  have hxs : x ≠ hp.objs.size := Nat.ne_of_lt (Heap.lt_size hx)
  refine set_plain (od := none) X ⟨hx, rfl, rfl, trivial⟩ hs (osa_openX (od := none) (r := none) SF X ⟨hx, rfl, rfl, trivial⟩ ho (taker_none ha) fun b => ?_)
  refine wpAny_bind (wpAny_pure (wpAny_bind (instanceDict_exc (s := ⟨hp, g, d, t + 1, os⟩) hx (looks_clsIn X hc) hd' ?_)))
  show wpAny _ _ (Builtin.ObjectAttr.storeInDict hp.objs.size (.str f _) f v) _ _ ⟨_, g, d, _, os⟩
  refine store_in_new ?_ fun h' tk' hn' hs' => ?_
  · exact ⟨dictOf [] 0, #[], 0, (Heap.get?_update_ne _ _ _ _ hxs.symm).trans (Heap.get?_push_at rfl rfl), rfl, fun e he => absurd he (by simp), fun _ => rfl⟩
  · have hx1 : (hp.push (dictOf [] 0)).get? x = some (excObj C t0 none .none) := Heap.get?_push_of_some _ hx
    refine hq h' tk' hp.objs.size (fun b o hb ho => ?_) (Nat.le_refl _) hxs.symm ?_ hn'
    · exact (hs'.2 b (Nat.ne_of_lt (Heap.lt_size ho))).trans ((Heap.get?_update_ne _ _ _ _ hb).trans (Heap.get?_push_of_some _ ho))
    · exact (hs'.2 x hxs).trans (Heap.get?_update_self _ hx1 rfl)
/-- x.f = v, a further one -/
theorem er_set_old {x t0 dx : Addr} {f : Str} {v : Value} {m0 : Str → Option Value} {nl : List Str} {Q : Unit → Shared → Prop} (SF : StoreFacts B bmB "object.__setattr__" "object") (X : K.In hp) (hx : hp.get? x = some (excObj C t0 (some dx) .none))
    (hns : hp.Ns1 dx m0) (hw : Within m0 nl) (hz : nl.length ≤ 1000)
    (hs : findIn K (.ref C) "__setattr__" = some (some (.builtin "object.__setattr__"))) (ho : excOver K C bmB = true) (hh : hasDictIn K C = true) (ha : findIn K (.ref C) f = some none)
    (hq : ∀ h' tk', (∀ b o, b ≠ dx → hp.get? b = some o → h'.get? b = some o) → h'.Ns1 dx (fun y => if y = f then some v else m0 y) → Q () ⟨h', g, d, tk', os⟩) :
    wpAny (model prog w) A (setAttr (.ref x) f v) Q E ⟨hp, g, d, t, os⟩ := by
  obtain ⟨cd, hc, hd'⟩ := any_some hh
  obtain ⟨oD, esD, epD, hoD, hdD, _⟩ := hns.count hw
  refine set_plain (od := some oD) X ⟨hx, rfl, rfl, hoD⟩ hs (osa_openX (od := some oD) (r := none) SF X ⟨hx, rfl, rfl, hoD⟩ ho (taker_none ha) fun b => ?_)
  refine wpAny_bind (wpAny_pure (wpAny_bind (wpAny_bind (wpAny_loadPart hx (wpAny_bind ((looks_clsIn X hc).here ?_))))))
  rw [hd']
  refine wpAny_pure (a := some dx) ?_
  show wpAny _ _ (Builtin.ObjectAttr.storeInDict dx (.str f _) f v) _ _ ⟨hp, g, d, _, os⟩
  exact OEX.store_in_old hns hw hz fun h' tk' hn hs' => hq h' tk' (fun b o hb ho => (hs'.2 b hb).trans ho) hn
end
end Er
end PySem
namespace PySem
namespace Er
open PySem.W PySem.Calls PyProof.Rows PySem.HandSPX
def iArgs (ps : List (Str × Pos)) : Arguments := { posonlyargs := [], args := ps.map fun p => { arg := p.1, annotation := none, pos := p.2 }, vararg := none, kwonlyargs := [], kw_defaults := [], kwarg := none, defaults := [] }
def iScope (fs : List Str) : Scope := { kind := .function, names := (("self" : Str), NameKind.local) :: fs.map (fun f => (f, NameKind.local)) ++ [(("__class__" : Str), NameKind.free), (("super" : Str), NameKind.globalImplicit)], isGenerator := false, isCoroutine := false, more := [] }
def iSet (f : Str) (q1 q2 q3 q4 : Pos) : Stmt := .Assign [.Attribute (.Name "self" q1) f q2] (.Name f q3) q4
/-- how super().__init__(t) is evaluated there -/
def SupEv (fs : List Str) (a1 a2 a3 a4 a5 : Pos) (t : Str) : Prop := ∀ (q : Str) (L a : Addr) (cd : Value) (cc : Addr), ∃ pl : Sem Bool, eval (.Call (.Attribute (.Call (.Name "super" a1) [] [] a2) "__init__" a3) [.Constant (.str t) 0 a4] [] a5) (ksEnv q (iScope fs) L a cd cc) = (do
      let ov ← attributeBase (.Call (.Name "super" a1) [] [] a2) "__init__" (ksEnv q (iScope fs) L a cd cc) (eval (.Call (.Name "super" a1) [] [] a2) (ksEnv q (iScope fs) L a cd cc))
      standAt a3.atName
      let (f, first) ← holding [ov] (getMethod ov "__init__" pl)
      callWith a5 f first (backTo a5 (starEach [.Constant (.str t) 0 a4] (ksEnv q (iScope fs) L a cd cc))) [])
def SetEv (fs : List Str) (f : Str) (q1 q2 q3 q4 : Pos) : Prop := ∀ (q : Str) (L a : Addr) (cd : Value) (cc : Addr), swapsWith (.Name f q3) (some (.Attribute (.Name "self" q1) f q2)) q4.line (ksEnv q (iScope fs) L a cd cc) = pure false
/-- how the arguments are bound, the names found -/
structure IBind (fs : List Str) (params : Arguments) : Prop where
  bnd : ∀ (qual : Str) (body : List Stmt) (doc pm : Value) (an : Option Addr) (cdv ct : Value) (cc x : Addr) (vs : List Value), vs.length = fs.length → bindArgs (ksFn "__init__" qual params body (iScope fs) .none .none doc pm an cdv ct cc) ⟨.ref x :: vs, []⟩ = pure ((("self" : Str), Value.ref x) :: fs.zip vs)
  hd : ∃ ar, (params.posonlyargs ++ params.args).head? = some ar ∧ ar.arg = "self"
  sup : (iScope fs).names.lookup ("super" : Str) = some .globalImplicit
  cls : (iScope fs).names.lookup ("__class__" : Str) = some .free
  self : (iScope fs).names.lookup ("self" : Str) = some .local
  loc : ∀ f ∈ fs, (iScope fs).names.lookup f = some .local ∧ (f == ("__debug__" : Str)) = false
  ms : ∀ (x : Addr) (vs : List Value), vs.length = fs.length → ((("self" : Str), Value.ref x) :: fs.zip vs).reverse.lookup ("self" : Str) = some (.ref x)
  mf : ∀ (x : Addr) (vs : List Value) (i : Nat) (f : Str) (v : Value), vs.length = fs.length → fs[i]? = some f → vs[i]? = some v → ((("self" : Str), Value.ref x) :: fs.zip vs).reverse.lookup f = some v
  ne : fs.Nodup
/-- the __init__ of such an error class: which fields -/
inductive IForm : List Str → Arguments → List Stmt → Scope → Prop
  | no (params : Arguments) (a1 a2 a3 a4 a5 a6 : Pos) (t : Str) (he : SupEv [] a1 a2 a3 a4 a5 t) (b : IBind [] params) : IForm [] params [supCall a1 a2 a3 a4 a5 a6 t] (iScope [])
  | one (params : Arguments) (a1 a2 a3 a4 a5 a6 q1 q2 q3 q4 : Pos) (t f : Str) (he : SupEv [f] a1 a2 a3 a4 a5 t) (s1 : SetEv [f] f q1 q2 q3 q4) (b : IBind [f] params) :
      IForm [f] params [supCall a1 a2 a3 a4 a5 a6 t, iSet f q1 q2 q3 q4] (iScope [f])
  | two (params : Arguments) (a1 a2 a3 a4 a5 a6 q1 q2 q3 q4 r1 r2 r3 r4 : Pos) (t f k : Str) (he : SupEv [f, k] a1 a2 a3 a4 a5 t) (s1 : SetEv [f, k] f q1 q2 q3 q4) (s2 : SetEv [f, k] k r1 r2 r3 r4) (b : IBind [f, k] params) :
      IForm [f, k] params [supCall a1 a2 a3 a4 a5 a6 t, iSet f q1 q2 q3 q4, iSet k r1 r2 r3 r4] (iScope [f, k])
/-- what the written part says of an error class C, its __init__ fI -/
structure ErTxt (prog : Program) (K : Frag) (qual : Str) (fs : List Str) (C fI : Addr) (B newId initId : String) (bmB : List Value) : Prop where
  fn : ∃ oc od, ∃ (params : Arguments) (body : List Stmt) (scope : Scope) (doc pm : Value) (an : Option Addr) (cda cc : Addr) (ct : Value) (osl : Array (Option Value)),
    K.lookup fI = some ⟨oc, od, .func (ksFn "__init__" qual params body scope .none .none doc pm an (.ref cda) ct cc), osl⟩ ∧ codeIn K (.ref cda) qual = true ∧ IForm fs params body scope ∧ SupTxt prog K C cda cc B newId initId bmB
  sa : findIn K (.ref C) "__setattr__" = some (some (.builtin "object.__setattr__"))
  ov : excOver K C bmB = true
  hd : hasDictIn K C = true
  no : ∀ f ∈ fs, findIn K (.ref C) f = some none
  init : findIn K (.ref C) "__init__" = some (some (.ref fI))
  ty : typeIn K (.ref fI) = some (.type "function")
/-- what such an __init__ leaves -/
structure IEnd (h h' : Heap) (x C t1 : Addr) (dd : Option Addr) (fvs : List (Str × Value)) : Prop where
  keep : ∀ b o, b ≠ x → h.get? b = some o → h'.get? b = some o
  obj : h'.get? x = some (excObj C t1 dd .none)
  dict : (dd = none ∧ fvs = []) ∨ fvs ≠ [] ∧ ∃ dx, dd = some dx ∧ h.objs.size ≤ dx ∧ dx ≠ x ∧ ∃ mA, h'.Ns1 dx mA ∧ ∀ y, mA y = fvs.lookup y
section
variable {prog : Program} {w : World} {A : Around} {E : Value → Shared → Prop} {R : Result → Shared → Prop} {K : Frag} {C fI : Addr} {qual : Str} {B newId initId : String} {bmB : List Value} {hp : Heap} {g : Array GenState} {d : Drawn} {t : Nat} {os : OsState}
theorem no_cell (fs : List Str) : ∀ x ∈ (iScope fs).names, x.2 ≠ NameKind.cell := by
  intro y hy
  have hy' : y ∈ (("self" : Str), NameKind.local) :: (fs.map (fun f => (f, NameKind.local)) ++ [(("__class__" : Str), NameKind.free), (("super" : Str), NameKind.globalImplicit)]) := hy
  simp only [List.mem_cons, List.mem_append, List.mem_map, List.not_mem_nil, or_false] at hy'
  rcases hy' with rfl | ⟨f, _, rfl⟩ | rfl | rfl <;> exact fun z => by cases z
theorem hide_keep {h h1 : Heap} {x : Addr} (k : ∀ b o, (hideAll h [x]).get? b = some o → h1.get? b = some o) : ∀ b o, b ≠ x → h.get? b = some o → h1.get? b = some o :=
  fun b o hb e => k b o (hideAll_get _ e (by simpa using hb))
theorem hide_in {h : Heap} {x : Addr} (X : K.In h) (hx : K.lookup x = none) : K.In (hideAll h [x]) := fun a o e => hideAll_get _ (X a o e) (by
  intro z
  have z' : a = x := by simpa using z
  rw [z', hx] at e
  cases e)
theorem hide_ns {h : Heap} {x L : Addr} {m : Str → Option Value} (n : h.Ns L m) (hx : L ≠ x) : (hideAll h [x]).Ns L m := by
  obtain ⟨o, es, ep, e, r⟩ := n
  exact ⟨o, es, ep, hideAll_get _ e (by simpa using hx), r⟩
/-- self.f = f in such an __init__ -/
theorem er_store1 {f : Str} {q1 q2 q3 q4 : Pos} {env : Env} {L x t0 : Addr} {v : Value} {m : Str → Option Value} {rest : List Stmt} {Q : Flow → Shared → Prop} (SF : StoreFacts B bmB "object.__setattr__" "object") (X : K.In hp) (hx : hp.get? x = some (excObj C t0 none .none))
    (hs : findIn K (.ref C) "__setattr__" = some (some (.builtin "object.__setattr__"))) (ho : excOver K C bmB = true) (hh : hasDictIn K C = true) (ha : findIn K (.ref C) f = some none)
    (hk : env.scope.kind = .function) (kf : env.kindOf f = some .local) (ks : env.kindOf "self" = some .local) (hn : hp.Ns env.locals m) (hf : m f = some v) (hself : m "self" = some (.ref x)) (h4 : (f == ("__debug__" : Str)) = false)
    (sw : swapsWith (.Name f q3) (some (.Attribute (.Name "self" q1) f q2)) q4.line env = pure false)
    (hq : ∀ h' tk' dx, (∀ b o, b ≠ x → hp.get? b = some o → h'.get? b = some o) → hp.objs.size ≤ dx → dx ≠ x → h'.get? x = some (excObj C t0 (some dx) .none) →
      h'.Ns1 dx (fun y => if y = f then some v else none) → wpAny (model prog w) A (execs rest env) Q E ⟨h', g, d, tk', os⟩) : wpAny (model prog w) A (execs (iSet f q1 q2 q3 q4 :: rest) env) Q E ⟨hp, g, d, t, os⟩ := by
  refine wpAny_execs_cons (plainObj_wpAny_Assign_Attribute ?_ sw)
  refine wpAny_Name (wpAny_loadName_local hk kf hn hf ?_) h4
  refine wpAny_Name (wpAny_loadName_local hk ks hn hself ?_) (by decide)
  exact er_set_new SF X hx hs ho hh ha hq
theorem er_store2 {f : Str} {q1 q2 q3 q4 : Pos} {env : Env} {L x t0 dx : Addr} {v : Value} {m m0 : Str → Option Value} {nl : List Str} {rest : List Stmt} {Q : Flow → Shared → Prop} (SF : StoreFacts B bmB "object.__setattr__" "object") (X : K.In hp) (hx : hp.get? x = some (excObj C t0 (some dx) .none))
    (hns : hp.Ns1 dx m0) (hw : Within m0 nl) (hz : nl.length ≤ 1000)
    (hs : findIn K (.ref C) "__setattr__" = some (some (.builtin "object.__setattr__"))) (ho : excOver K C bmB = true) (hh : hasDictIn K C = true) (ha : findIn K (.ref C) f = some none)
    (hk : env.scope.kind = .function) (kf : env.kindOf f = some .local) (ks : env.kindOf "self" = some .local) (hn : hp.Ns env.locals m) (hf : m f = some v) (hself : m "self" = some (.ref x)) (h4 : (f == ("__debug__" : Str)) = false)
    (sw : swapsWith (.Name f q3) (some (.Attribute (.Name "self" q1) f q2)) q4.line env = pure false)
    (hq : ∀ h' tk', (∀ b o, b ≠ dx → hp.get? b = some o → h'.get? b = some o) → h'.Ns1 dx (fun y => if y = f then some v else m0 y) → wpAny (model prog w) A (execs rest env) Q E ⟨h', g, d, tk', os⟩) :
    wpAny (model prog w) A (execs (iSet f q1 q2 q3 q4 :: rest) env) Q E ⟨hp, g, d, t, os⟩ := by
  refine wpAny_execs_cons (plainObj_wpAny_Assign_Attribute ?_ sw)
  refine wpAny_Name (wpAny_loadName_local hk kf hn hf ?_) h4
  refine wpAny_Name (wpAny_loadName_local hk ks hn hself ?_) (by decide)
  exact er_set_old SF X hx hns hw hz hs ho hh ha hq
/-- the whole __init__ -/
theorem er_init {fs : List Str} {x t0 : Addr} {vs : List Value} {mg mb : Str → Option Value} (T : ErTxt prog K qual fs C fI B newId initId bmB) (KF : KxsFacts B initId) (FB : ExcBaseFacts B newId initId bmB) (SF : StoreFacts B bmB "object.__setattr__" "object")
    (X : K.In hp) (hlim : hp.NoLimit) (hg : hp.Ns mainGlobals mg) (hb : hp.Ns builtinsNs mb) (hmb : mb "super" = bootBuiltins "super") (hx : hp.get? x = some (excObj C t0 none .none)) (hnx : K.lookup x = none) (hxg : mainGlobals ≠ x) (hxb : builtinsNs ≠ x) (hroom : A.depth < recursionLimit) (hl : vs.length = fs.length)
    (hq : ∀ h' tk' t1 dd, IEnd hp h' x C t1 dd (fs.zip vs) → R (.ok (.ret .none)) ⟨h', g, d, tk', os⟩) :
    codeAny (model prog w) A (.call (.ref fI) ⟨.ref x :: vs, []⟩) R ⟨hp, g, d, t, os⟩ := by
  obtain ⟨oc, od, params, body, scope, doc, pm, an, cda, cc, ct, osl, ho, hcd, form, S⟩ := T.fn
  have hNo := T.no
  have hsa := T.sa
  have hov := T.ov
  have hhd := T.hd
  have hGl : ∀ (h1 : Heap) (m : Str → Option Value), h1.Ns hp.objs.size m → (∀ b o, hp.get? b = some o → h1.get? b = some o) → Fr (hideAll hp [x]) hp.objs.size h1 m := fun h1 m hns k => ⟨hns, fun b o e => k b o (of_hideAll _ e), Nat.le_of_eq (hideAll_size _ _)⟩
  have hNw : ∀ (h1 : Heap), (∀ b o, hp.get? b = some o → h1.get? b = some o) → News (hideAll hp [x]) hp.objs.size h1 [(x, excObj C t0 none .none)] := fun h1 k p hp' => by
    rcases List.mem_singleton.mp hp' with rfl
    exact ⟨k _ _ hx, Nat.ne_of_lt (Heap.lt_size hx), hideAll_none _ (by simp)⟩
  have nsOf : ∀ {m : Str → Option Value} {h1 h2 : Heap} {y : Addr}, h1.Ns hp.objs.size m → (∀ b o, b ≠ y → h1.get? b = some o → h2.get? b = some o) → hp.objs.size ≠ y → h2.Ns hp.objs.size m := fun {m h1 h2 y} n k ny => by
    obtain ⟨o, es, ep, e, r⟩ := n
    exact ⟨o, es, ep, k _ _ ny e, r⟩
  have nx : hp.objs.size ≠ x := Nat.ne_of_gt (Heap.lt_size hx)
  have knx : ∀ {h1 h2 : Heap}, K.In h1 → (∀ b o, b ≠ x → h1.get? b = some o → h2.get? b = some o) → K.In h2 := fun {h1 h2} X1 k a o e => k a o (fun z => by rw [z, hnx] at e; cases e) (X1 a o e)
  have enter : ∀ (body : List Stmt) (b : IBind fs params) (ho' : K.lookup fI = some ⟨oc, od, .func (ksFn "__init__" qual params body (iScope fs) .none .none doc pm an (.ref cda) ct cc), osl⟩),
      (∀ h1 tk1, h1.Ns hp.objs.size (fun y => ((("self" : Str), Value.ref x) :: fs.zip vs).reverse.lookup y) → (∀ b o, hp.get? b = some o → h1.get? b = some o) →
        _root_.PySem.wpAt (model prog w) (A.deeper (ksEnv qual (iScope fs) hp.objs.size fI (.ref cda) cc)) (.func body (ksEnv qual (iScope fs) hp.objs.size fI (.ref cda) cc)) (execs body (ksEnv qual (iScope fs) hp.objs.size fI (.ref cda) cc))
          (fun fl s' => R (.ok (.ret (match fl with | .ret v => v | _ => .none))) s') (fun e s' => wpAny (model prog w) (A.deeper (ksEnv qual (iScope fs) hp.objs.size fI (.ref cda) cc)) (leaving (ksEnv qual (iScope fs) hp.objs.size fI (.ref cda) cc) e) (fun _ s'' => R (.error e) s'') (fun e' s'' => R (.error e') s'') s') ⟨h1, g, d, tk1, os⟩) →
      codeAny (model prog w) A (.call (.ref fI) ⟨.ref x :: vs, []⟩) R ⟨hp, g, d, t, os⟩ := fun body b ho' z => by
    refine ks_codeAny_call_defAt (fd := ksFn "__init__" qual params body (iScope fs) .none .none doc pm an (.ref cda) ct cc) (body := body) (binds := (("self" : Str), Value.ref x) :: fs.zip vs) hroom (X _ _ ho') rfl hlim (codeRec_of X hcd) rfl (BindsTo.of_eq (b.bnd _ _ _ _ _ _ _ _ _ _ hl)) (no_cell fs) (fun y hy => ?_) (fun h1 hns k => z h1 _ hns k) rfl rfl rfl
    rcases List.mem_cons.mp hy with rfl | hy
    · exact b.self
    · exact (b.loc y.1 (List.of_mem_zip hy).1).1
  cases form with
  | no params a1 a2 a3 a4 a5 a6 t he b =>
    obtain ⟨pl, he⟩ := he qual hp.objs.size fI (.ref cda) cc
    obtain ⟨ar, har, hae⟩ := b.hd
    refine enter _ b ho fun h1 tk1 hns k => ?_
    refine er_super (q := qual) (scope := iScope []) (rest := []) S KF FB (hGl _ _ hns k) (hide_in X hnx) (hNw _ k) (hide_ns hg hxg) (hide_ns hb hxb) hmb ho har (by rw [hae]; exact b.ms x vs hl) b.sup he b.cls (by rw [hae]; exact b.self) rfl (fun h' tk' t' F' hx' => ?_)
    refine wpAny_execs_nil (hq h' tk' t' none ⟨fun b o hb e => F'.keep b o (hideAll_get _ e (by simpa using hb)), hx', .inl ⟨rfl, by simp⟩⟩)
  | one params a1 a2 a3 a4 a5 a6 q1 q2 q3 q4 t f he s1 b =>
    obtain ⟨pl, he⟩ := he qual hp.objs.size fI (.ref cda) cc
    obtain ⟨ar, har, hae⟩ := b.hd
    obtain ⟨v, rfl⟩ : ∃ v, vs = [v] := by
      match vs, hl with
      | [v], _ => exact ⟨v, rfl⟩
    refine enter _ b ho fun h1 tk1 hns k => ?_
    refine er_super (q := qual) (scope := iScope [f]) (rest := [iSet f q1 q2 q3 q4]) S KF FB (hGl _ _ hns k) (hide_in X hnx) (hNw _ k) (hide_ns hg hxg) (hide_ns hb hxb) hmb ho har (by rw [hae]; exact b.ms x [v] hl) b.sup he b.cls (by rw [hae]; exact b.self) rfl (fun h' tk' t' F' hx' => ?_)
    have k' : ∀ b o, b ≠ x → hp.get? b = some o → h'.get? b = some o := fun b o hb e => F'.keep b o (hideAll_get _ e (by simpa using hb))
    refine er_store1 (L := hp.objs.size) (v := v) SF (knx X k') hx' hsa hov hhd (hNo f (by simp)) rfl (b.loc f (by simp)).1 b.self F'.ns (b.mf x [v] 0 f v hl rfl rfl) (b.ms x [v] hl) (b.loc f (by simp)).2 (s1 _ _ _ _ _) (fun h2 tk2 dx k2 big ne hx2 hn2 => ?_)
    refine wpAny_execs_nil (hq h2 tk2 t' (some dx) ⟨fun b o hb e => k2 b o hb (k' b o hb e), hx2, .inr ⟨by simp, dx, rfl, Nat.le_trans (Nat.le_of_lt F'.ns.lt) big, ne, _, hn2, fun y => ?_⟩⟩)
    show (if y = f then some v else none) = ([(f, v)] : List (Str × Value)).lookup y
    by_cases e : y = f
    · subst e
      simp [List.lookup]
    · rw [if_neg e]
      simp [List.lookup, (by simpa using e : (y == f) = false)]
  | two params a1 a2 a3 a4 a5 a6 q1 q2 q3 q4 r1 r2 r3 r4 t f kk he s1 s2 b =>
    obtain ⟨pl, he⟩ := he qual hp.objs.size fI (.ref cda) cc
    obtain ⟨ar, har, hae⟩ := b.hd
    obtain ⟨v, u, rfl⟩ : ∃ v u, vs = [v, u] := by
      match vs, hl with
      | [v, u], _ => exact ⟨v, u, rfl⟩
    refine enter _ b ho fun h1 tk1 hns k => ?_
    refine er_super (q := qual) (scope := iScope [f, kk]) (rest := [iSet f q1 q2 q3 q4, iSet kk r1 r2 r3 r4]) S KF FB (hGl _ _ hns k) (hide_in X hnx) (hNw _ k) (hide_ns hg hxg) (hide_ns hb hxb) hmb ho har (by rw [hae]; exact b.ms x [v, u] hl) b.sup he b.cls (by rw [hae]; exact b.self) rfl (fun h' tk' t' F' hx' => ?_)
    have k' : ∀ b o, b ≠ x → hp.get? b = some o → h'.get? b = some o := fun b o hb e => F'.keep b o (hideAll_get _ e (by simpa using hb))
    have hX' := knx X k'
    refine er_store1 (L := hp.objs.size) (v := v) SF hX' hx' hsa hov hhd (hNo f (by simp)) rfl (b.loc f (by simp)).1 b.self F'.ns (b.mf x [v, u] 0 f v hl rfl rfl) (b.ms x [v, u] hl) (b.loc f (by simp)).2 (s1 _ _ _ _ _) (fun h2 tk2 dx k2 big ne hx2 hn2 => ?_)
    have hX2 := knx hX' k2
    have hF2 := nsOf F'.ns k2 nx
    have dL : hp.objs.size ≠ dx := Nat.ne_of_lt (Nat.lt_of_lt_of_le F'.ns.lt big)
    refine er_store2 (L := hp.objs.size) (v := u) (nl := [f]) SF hX2 hx2 hn2 (fun y hy => ?_) (by simp) hsa hov hhd (hNo kk (by simp)) rfl (b.loc kk (by simp)).1 b.self hF2 (b.mf x [v, u] 1 kk u hl rfl rfl) (b.ms x [v, u] hl) (b.loc kk (by simp)).2 (s2 _ _ _ _ _) (fun h3 tk3 k3 hn3 => ?_)
    · by_cases e : y = f
      · simp [e]
      · exact absurd (if_neg e) hy
    refine wpAny_execs_nil (hq h3 tk3 t' (some dx) ⟨fun b o hb e => k3 b o (fun z => ?_) (k2 b o hb (k' b o hb e)), k3 _ _ ne.symm hx2, .inr ⟨by simp, dx, rfl, Nat.le_trans (Nat.le_of_lt F'.ns.lt) big, ne, _, hn3, fun y => ?_⟩⟩)
    · subst z
      exact absurd (Nat.lt_of_lt_of_le (Heap.lt_size (k' _ _ hb e)) big) (Nat.lt_irrefl _)
    show (if y = kk then some u else if y = f then some v else none) = ([(f, v), (kk, u)] : List (Str × Value)).lookup y
    have nfk : f ≠ kk := by
      have := b.ne
      simpa using this
    by_cases e : y = f
    · subst e
      simp [List.lookup, nfk]
    · have e' : (y == f) = false := by simpa using e
      by_cases e2 : y = kk
      · subst e2
        simp [List.lookup, e']
      · rw [if_neg e2, if_neg e]
        simp [List.lookup, e', (by simpa using e2 : (y == kk) = false)]
end
end Er
end PySem
namespace PySem
namespace Er
open PySem.W PySem.Calls PyProof.Rows PySem.HandSPX
/-- a made error -/
structure EMade (h h' : Heap) (e C t1 : Addr) (dd : Option Addr) (fvs : List (Str × Value)) : Prop where
  keep : ∀ b o, h.get? b = some o → h'.get? b = some o
  new : h.objs.size ≤ e
  obj : h'.get? e = some (excObj C t1 dd .none)
  dict : (dd = none ∧ fvs = []) ∨ fvs ≠ [] ∧ ∃ dx, dd = some dx ∧ h.objs.size ≤ dx ∧ dx ≠ e ∧ ∃ mA, h'.Ns1 dx mA ∧ ∀ y, mA y = fvs.lookup y
section
variable {prog : Program} {w : World} {A : Around} {E : Value → Shared → Prop} {R : Result → Shared → Prop} {K : Frag} {C fI : Addr} {qual : Str} {B newId initId : String} {bmB : List Value} {hp : Heap} {g : Array GenState} {d : Drawn} {t : Nat} {os : OsState}
theorem er_made {fs : List Str} {vs : List Value} {mg mb : Str → Option Value} (T : ErTxt prog K qual fs C fI B newId initId bmB) (KF : KxsFacts B initId) (FB : ExcBaseFacts B newId initId bmB) (SF : StoreFacts B bmB "object.__setattr__" "object") (hex : excInitIn K C bmB newId = true)
    (X : K.In hp) (hlim : hp.NoLimit) (hg : hp.Ns mainGlobals mg) (hb : hp.Ns builtinsNs mb) (hmb : mb "super" = bootBuiltins "super") (hroom : A.depth + 1 < recursionLimit) (hl : vs.length = fs.length) (hz : vs.length ≤ sizeLine)
    (hq : ∀ h' tk' e t1 dd, EMade hp h' e C t1 dd (fs.zip vs) → R (.ok (.ret (.ref e))) ⟨h', g, d, tk', os⟩) :
    codeAny (model prog w) A (.call (.ref C) ⟨vs, []⟩) R ⟨hp, g, d, t, os⟩ := by
  obtain ⟨nm, N', qn, bs, bm, hdct, sn, sub, ab, col, dd, k0, k1, k2, k3, k5, hC, hT⟩ := excInit_of X hex
  have k : ∀ b o, hp.get? b = some o → ((hp.push (kdv_tup vs)).push (excO C hp.objs.size)).get? b = some o := fun b o e => Heap.get?_push_of_some _ (Heap.get?_push_of_some _ e)
  have hget : ((hp.push (kdv_tup vs)).push (excO C hp.objs.size)).get? (hp.objs.size + 1) = some (excO C hp.objs.size) := by heap_get
  have big : ∀ {b : Addr} {o : Obj}, hp.get? b = some o → b ≠ hp.objs.size + 1 := fun {b o} e => Nat.ne_of_lt (Nat.lt_succ_of_lt (Heap.lt_size e))
  have hnx : K.lookup (hp.objs.size + 1) = none := by
    cases e : K.lookup (hp.objs.size + 1) with
    | none => rfl
    | some o => exact absurd rfl (big (X _ _ e))
  have gne : mainGlobals ≠ hp.objs.size + 1 := by
    obtain ⟨o, _, _, e, _⟩ := hg
    exact big e
  have bne : builtinsNs ≠ hp.objs.size + 1 := by
    obtain ⟨o, _, _, e, _⟩ := hb
    exact big e
  refine call_own FB hT hC (looks_findIn X T.init) (fun self => bind_fn X self T.ty) hz ?_
  refine er_init (hp := (hp.push (kdv_tup vs)).push (excO C hp.objs.size)) (x := hp.objs.size + 1) (t0 := hp.objs.size) T KF FB SF (X.keeps k) (hlim.keeps k) (hg.keeps k) (hb.keeps k) hmb hget hnx gne bne ?_ hl fun h' tk' t1 dd ⟨k', hx, hd⟩ => ?_
  · show A.depth + 1 < recursionLimit
    exact hroom
  · have old : ∀ b o, hp.get? b = some o → h'.get? b = some o := fun b o e => k' b o (big e) (k b o e)
    refine ⟨rfl, hq h' tk' (hp.objs.size + 1) t1 dd ⟨old, Nat.le_succ _, hx, ?_⟩⟩
    rcases hd with hd | ⟨e0, dx, e1, e2, e3⟩
    · exact .inl hd
    · refine .inr ⟨e0, dx, e1, ?_, e3⟩
      have z : hp.objs.size + 1 + 1 ≤ dx := by
        have q := e2
        rw [Heap.size_push, Heap.size_push] at q
        exact q
      exact Nat.le_trans (Nat.le_trans (Nat.le_succ _) (Nat.le_succ _)) z
end
end Er
end PySem
namespace L2
open PySem PySem.Spec PyProof.Rows
theorem relO_zip : ∀ {fs : List Str} {vs : List V} {us : List Value}, Vals vs us → ∀ f, RelO ((fs.zip vs).lookup f) ((fs.zip us).lookup f)
  | [], _, _, _, f => by simp [RelO]
  | _ :: _, _, _, .nil, f => by simp [RelO]
  | a :: fs, _, _, .cons r t, f => by
    simp only [List.zip_cons_cons, List.lookup_cons]
    cases e : f == a with
    | true => exact r
    | false => exact relO_zip t f
/-- an own error class: what is known of it, with its base's facts -/
structure ErC (prog : Program) (K : PySem.W.Frag) (qual : Str) (fs : List Str) (C : Addr) : Prop where
  ex : ∃ fI B newId initId bmB, PySem.Er.ErTxt prog K qual fs C fI B newId initId bmB ∧ PySem.W.KxsFacts B initId ∧ ExcBaseFacts B newId initId bmB ∧ StoreFacts B bmB "object.__setattr__" "object" ∧ PySem.W.excInitIn K C bmB newId = true
  exC : PySem.W.subIn K (.ref C) (.type "BaseException") = some true
  tyC : PySem.W.typeIn K (.ref C) = some (.type "type")
  kC : PySem.W.keepIn K (.ref C) = true
section
variable {X : Cx} {C : Addr} {qual : Str} {fs : List Str}
/-- C(e, ..) -/
def tMkEr (C : Addr) (fs : List Str) (ta : TA) : St → Hp → XK → Prop := fun σ H Q => ta σ H fun vs H1 => vs.length = fs.length ∧ vs.length ≤ 1000 ∧ (fs = [] → Q (.ref C) none H1) ∧ (fs ≠ [] → ∀ d, H1 d = none → Q (.ref C) (some d) (upd H1 d (.xd (fs.zip vs))))
theorem er_run {pins : List (Addr × Obj)} {σ : St} {H1 : Hp} {s1 : Shared} {vs : List V} {us : List Value} {Q : XK} {k : Nat} (T : ErC X.prog X.K qual fs C) (hr : Room k X.A) (I1 : Inv X pins σ H1 s1) (r1 : Vals vs us) (hl : vs.length = fs.length) (hz : vs.length ≤ 1000)
    (q0 : fs = [] → Q (.ref C) none H1) (q1 : fs ≠ [] → ∀ d, H1 d = none → Q (.ref C) (some d) (upd H1 d (.xd (fs.zip vs)))) : wpAny (model X.prog X.w) X.A (call (.ref C) us) (MkP X pins σ Q) X.xe s1 := by
  obtain ⟨fI, B, newId, initId, bmB, T1, KF, FB, SF, hex⟩ := T.ex
  have hlim := I1.nolimit
  have hK := I1.kIn
  have hm := I1.mod
  obtain ⟨mb, hb, hbt⟩ := hm.blt
  have hg := hm.glob.keeps I1.bk
  have hb' := hb.keeps I1.bk
  have lu : us.length = fs.length := r1.length.symm.trans hl
  have zu : us.length ≤ sizeLine := by
    rw [← r1.length, sizeLine_eq]
    omega
  obtain ⟨hp, g, dr, tk, os⟩ := s1
  refine wpAny_call (PySem.Er.er_made T1 KF FB SF hex hK hlim hg hb' (hbt "super" (by decide)) (by have := hr.dp; omega) lu zu fun h' tk' e t1 dd M => ?_)
  show MkP X pins σ Q (.ref e) ⟨h', g, dr, tk', os⟩
  obtain ⟨G', g1, g2⟩ := restrict h' fun b => decide (b ≠ e)
  have gk : ∀ b, b ≠ e → G'.get? b = h'.get? b := fun b hb => g1 b (decide_eq_true hb)
  have ge : G'.get? e = none := g2 e (by simp)
  have old : ∀ b o, hp.get? b = some o → G'.get? b = some o := fun b o q => (gk b (Nat.ne_of_lt (Nat.lt_of_lt_of_le (Heap.lt_size q) M.new))).trans (M.keep b o q)
  have back : ∀ b o, G'.get? b = some o → h'.get? b = some o := fun b o q => by
    by_cases hb : b = e
    · rw [hb, ge] at q
      cases q
    · exact (gk b hb).symm.trans q
  rcases M.dict with ⟨ed, ef⟩ | ⟨e0, dx, ed, big, ne, mA, hns, hmA⟩
  · subst ed
    have f0 : fs = [] := by
      cases fs with
      | nil => rfl
      | cons a l =>
        cases us with
        | nil => cases lu
        | cons u us => cases ef
    have J : Inv X pins σ H1 ⟨G', g, dr, tk', os⟩ := I1.kept (t' := tk') old
    exact ⟨e, _, _, ⟨G', g, dr, tk', os⟩, _, .ref C, none, rfl, J, back, ge, M.obj, ⟨rfl, rfl⟩, rfl, rfl, I1.hok.fresh M.new, rfl, I1.bare, raises_own T.exC T.tyC, q0 f0⟩
  · subst ed
    have f0 : fs ≠ [] := fun z => e0 (by rw [z]; rfl)
    have ob : ObjOk X.prog X.w (upd H1 dx (.xd (fs.zip vs))) G' dx (.xd (fs.zip vs)) := ⟨mA, hns.at (fun o q => (gk dx ne).trans q), fun f => by rw [hmA f]; exact relO_zip r1 f⟩
    have J : Inv X pins σ (upd H1 dx (.xd (fs.zip vs))) ⟨G', g, dr, tk', os⟩ := I1.laid (t' := tk') old big ob
    refine ⟨e, _, _, ⟨G', g, dr, tk', os⟩, _, .ref C, some dx, rfl, J, back, ge, M.obj, ⟨rfl, rfl⟩, rfl, rfl, ?_, rfl, I1.bare, raises_own T.exC T.tyC, q1 f0 dx (I1.hok.fresh big)⟩
    rw [upd_ne (Ne.symm ne)]
    exact I1.hok.fresh M.new
end
end L2
namespace L2
open PySem PySem.Spec PyProof.Rows
section
variable {X : Cx} {C : Addr} {qual : Str} {fs : List Str} {x : Str} {p pos pos2 : Pos} {e : Expr} {es : List Expr} {ta : TA} {k : Nat} {W : WX}
theorem pmk_er (T : ErC X.prog X.K qual fs C) (hr : Room k X.A) (hm : X.mg x = some (.ref C)) (ha : PA X (e :: es) ta) (hg : Gl X x := by rfl) (hdb : (x == ("__debug__" : Str)) = false := by decide)
    (he : starEach (e :: es) X.env = (false, eval e X.env) :: starEach es X.env := by rfl) (hpl : (backTo pos (starEach es X.env)).any (·.1) = false := by rfl) : PMk X (.Call (.Name x p) (e :: es) [] pos) (tMkEr C fs ta) := by
  intro pins s σ H Q I h
  refine wpAny_Call_Name_kw (ld_glob I hg hm ?_ hdb)
  refine PySem.W.callWith_K (h₀ := X.base) I.ok.mod.kin T.kC (thn (ha.run pos pins s σ H _ I h) fun us s1 hh => ?_) he hpl
  obtain ⟨vs, H1, I1, r1, hl, hz, q0, q1⟩ := hh
  exact ⟨I1.kIn, er_run T hr I1 r1 hl hz q0 q1⟩
theorem pmk_er0 (T : ErC X.prog X.K qual [] C) (hr : Room k X.A) (hm : X.mg x = some (.ref C)) (hg : Gl X x := by rfl) (hdb : (x == ("__debug__" : Str)) = false := by decide) : PMk X (.Call (.Name x p) [] [] pos) (tMkEr C [] tNil) := by
  intro pins s σ H Q I h
  refine wpAny_Call_Name_kw (ld_glob I hg hm ?_ hdb)
  refine PySem.W.callWith_K0 I.kIn T.kC ?_
  obtain ⟨hl, hz, q0, q1⟩ := h
  exact er_run T hr I .nil hl hz q0 q1
/-- raise C(e, ..) -/
def tRaiseEr (C : Addr) (fs : List Str) (W : WX) (ta : TA) : TS := fun _ σ H => tMkEr C fs ta σ H fun cls d H' => W cls d σ H'
theorem ps_raiseEr (hc : X.calm = true) (T : ErC X.prog X.K qual fs C) (hr : Room k X.A) (tk : Takes X W) (hm : X.mg x = some (.ref C)) (ha : PA X (e :: es) ta) (hg : Gl X x := by rfl) (hdb : (x == ("__debug__" : Str)) = false := by decide)
    (he : starEach (e :: es) X.env = (false, eval e X.env) :: starEach es X.env := by rfl) (hpl : (backTo pos (starEach es X.env)).any (·.1) = false := by rfl) :
    PS X (.Raise (some (.Call (.Name x p) (e :: es) [] pos)) none pos2) (tRaiseEr C fs W ta) := ps_raise hc tk (pmk_er T hr hm ha hg hdb he hpl)
theorem ps_raiseEr0 (hc : X.calm = true) (T : ErC X.prog X.K qual [] C) (hr : Room k X.A) (tk : Takes X W) (hm : X.mg x = some (.ref C)) (hg : Gl X x := by rfl) (hdb : (x == ("__debug__" : Str)) = false := by decide) :
    PS X (.Raise (some (.Call (.Name x p) [] [] pos)) none pos2) (tRaiseEr C [] W tNil) := ps_raise hc tk (pmk_er0 T hr hm hg hdb)
end
end L2
namespace Wm
open PySem L2
/-! ## the pen that a law draws with -/
def pk (c : Addr) (a r g m t : Int) : List (Key × V) := [(.inr "cells", .ref c), (.inr "at", .int a), (.inr "rest", .int r), (.inr "digits", .int g), (.inr "mix", .int m), (.inr "turn", .int t)]
theorem pk_get_cells (c : Addr) (a r g m t : Int) : valV (pk c a r g m t) (.inr "cells") = some (.ref c) := by rfl
theorem pk_get_at (c : Addr) (a r g m t : Int) : valV (pk c a r g m t) (.inr "at") = some (.int a) := by rfl
theorem pk_get_rest (c : Addr) (a r g m t : Int) : valV (pk c a r g m t) (.inr "rest") = some (.int r) := by rfl
theorem pk_get_digits (c : Addr) (a r g m t : Int) : valV (pk c a r g m t) (.inr "digits") = some (.int g) := by rfl
theorem pk_get_mix (c : Addr) (a r g m t : Int) : valV (pk c a r g m t) (.inr "mix") = some (.int m) := by rfl
theorem pk_get_turn (c : Addr) (a r g m t : Int) : valV (pk c a r g m t) (.inr "turn") = some (.int t) := by rfl
theorem pk_put_at (c : Addr) (a r g m t n : Int) : putK (pk c a r g m t) (.inr "at") (.int n) = pk c n r g m t := by rfl
theorem pk_put_rest (c : Addr) (a r g m t n : Int) : putK (pk c a r g m t) (.inr "rest") (.int n) = pk c a n g m t := by rfl
theorem pk_put_digits (c : Addr) (a r g m t n : Int) : putK (pk c a r g m t) (.inr "digits") (.int n) = pk c a r n m t := by rfl
theorem pk_put_mix (c : Addr) (a r g m t n : Int) : putK (pk c a r g m t) (.inr "mix") (.int n) = pk c a r g n t := by rfl
theorem pk_put_turn (c : Addr) (a r g m t n : Int) : putK (pk c a r g m t) (.inr "turn") (.int n) = pk c a r g m n := by rfl
/-- a pen stands at p, its cells at c -/
structure PenAt (H : Hp) (p c : Addr) : Prop where
  ex : ∃ (ns : List Int) (a r g m t : Int), H p = some (.dK (pk c a r g m t)) ∧ H c = some (.lst (ns.map V.int)) ∧ 0 ≤ a ∧ 0 ≤ m ∧ m < 2147483648
/-- a step with the pen at p: all else stands -/
structure PenStep (p c : Addr) (H H' : Hp) : Prop where
  pen : PenAt H' p c
  keep : ∀ b o, b ≠ p → H b = some o → H' b = some o
theorem PenStep.refl {p c : Addr} {H : Hp} (h : PenAt H p c) : PenStep p c H H := ⟨h, fun _ _ _ e => e⟩
theorem PenStep.trans {p c : Addr} {H H1 H2 : Hp} (a : PenStep p c H H1) (b : PenStep p c H1 H2) : PenStep p c H H2 := ⟨b.pen, fun c o n e => b.keep c o n (a.keep c o n e)⟩
theorem PenAt.same {p c : Addr} {H H' : Hp} (h : PenAt H p c) (s : Same H H') : PenAt H' p c := by
  obtain ⟨ns, a, r, g, m, t, h1, h2, h3⟩ := h.ex
  exact ⟨ns, a, r, g, m, t, s _ _ h1, s _ _ h2, h3⟩
theorem PenAt.step {p c : Addr} {H H' : Hp} (h : PenAt H p c) (s : Same H H') : PenStep p c H H' := ⟨h.same s, fun b o _ e => s b o e⟩
theorem PenStep.same {p c : Addr} {H H1 H2 : Hp} (a : PenStep p c H H1) (s : Same H1 H2) : PenStep p c H H2 := ⟨a.pen.same s, fun b o n e => s b o (a.keep b o n e)⟩
theorem PenAt.some_p {H : Hp} {p c : Addr} (h : PenAt H p c) : ∃ o, H p = some o := by
  obtain ⟨ns, a, r, g, m, t, h1, h2, h3⟩ := h.ex
  exact ⟨_, h1⟩
theorem PenAt.some_c {H : Hp} {p c : Addr} (h : PenAt H p c) : ∃ o, H c = some o := by
  obtain ⟨ns, a, r, g, m, t, h1, h2, h3⟩ := h.ex
  exact ⟨_, h2⟩
theorem PenAt.ne_new {H : Hp} {p c q : Addr} (h : PenAt H p c) (n : H q = none) : p ≠ q ∧ c ≠ q := by
  obtain ⟨o, e⟩ := h.some_p
  obtain ⟨u, e'⟩ := h.some_c
  exact ⟨ne_of_none e n, ne_of_none e' n⟩
theorem PenAt.put {H : Hp} {p c q : Addr} {o : HO} (h : PenAt H p c) (n : p ≠ q ∧ c ≠ q) : PenAt (upd H q o) p c := by
  obtain ⟨ns, a, r, g, m, t, h1, h2, h3⟩ := h.ex
  exact ⟨ns, a, r, g, m, t, by rw [upd_ne n.1]; exact h1, by rw [upd_ne n.2]; exact h2, h3⟩
/-- a write to an object that was not there at the start -/
theorem PenStep.put {p c q : Addr} {o : HO} {H H1 : Hp} (a : PenStep p c H H1) (h : PenAt H p c) (n : H q = none) : PenStep p c H (upd H1 q o) :=
  ⟨a.pen.put (h.ne_new n), fun b u nb e => by rw [upd_ne (ne_of_none e n)]; exact a.keep b u nb e⟩
theorem dg {H : Hp} {p : Addr} {kvs : List (Key × V)} {x : Str} {v : V} (h : H p = some (.dK kvs)) (e : valV kvs (.inr x) = some v) : DGet H p (.str x) (some v) := e ▸ DGet.k (k := .inr x) h
theorem dp {H : Hp} {p : Addr} {kvs kvs' : List (Key × V)} {x : Str} {v : V} (h : H p = some (.dK kvs)) (e : putK kvs (.inr x) v = kvs') (hl : kvs.length < sizeLine) : DPut H p (.str x) v (upd H p (.dK kvs')) := e ▸ DPut.k (k := .inr x) h hl
theorem dpu {H : Hp} {p : Addr} {kvs kvs' : List (Key × V)} {x : Str} {v : V} (e : putK kvs (.inr x) v = kvs') (hl : kvs.length < sizeLine) : DPut (upd H p (.dK kvs)) p (.str x) v (upd H p (.dK kvs')) := by
  have z := dp (H := upd H p (.dK kvs)) (x := x) (v := v) upd_same e hl
  rwa [upd_upd] at z
theorem same_new {H : Hp} {p : Addr} {o : HO} (h : H p = none) : Same H (upd H p o) := fun b u e => by rw [upd_ne (ne_of_none e h)]; exact e
/-- draws: r with 0 ≤ r < b -/
def spTake : Sp := fun vs H Q _ => ∃ (p c : Addr) (b : Int), vs = [.ref p, .int b] ∧ PenAt H p c ∧ 0 < b ∧ b < 2 ^ 100 ∧ ∀ r H', 0 ≤ r → r < b → PenStep p c H H' → Q (.int r) H'
def spPen (K : PySem.W.Frag) : Sp := fun vs H Q _ => ∃ (a : Addr) (ns : List Int), vs = [.ref a] ∧ SqL K H a (ns.map V.int) ∧ ∀ p c H', PenAt H' p c → Same H H' → H p = none → Q (.ref p) H'
theorem r_take {H : Hp} {Q : VK} {E : XK} {p c : Addr} {b : Int} (h : PenAt H p c) (hb : 0 < b) (hb2 : b < 2 ^ 100) (k : ∀ r H', 0 ≤ r → r < b → PenStep p c H H' → Q (.int r) H') : spTake ([.ref p, .int b] ++ []) H Q E := ⟨p, c, b, rfl, h, hb, hb2, k⟩
theorem p18 : (10 : Int) ^ (18 : Int).toNat = 1000000000000000000 := by decide
theorem sl6 (c : Addr) (a r g m t : Int) : (pk c a r g m t).length < sizeLine := by
  rw [sizeLine_eq]
  exact (by decide : 6 < 16777216)
theorem ite_and {c : Bool} {A B : Prop} (h1 : c = true → A) (h2 : c = false → B) : if c = true then A else B := by
  cases c
  · exact iteF (h2 rfl)
  · exact iteT (h1 rfl)
end Wm
namespace Wm
open PySem L2
/-! ## calls by named readings -/
def rLen (K : PySem.W.Frag) : List V → Hp → VK → Prop := fun xs H Q => ∃ p ys, xs = [.ref p] ∧ (SqL K H p ys ∨ SqT K H p ys) ∧ Q (.int ys.length) H
def rLenS : List V → Hp → VK → Prop := fun xs H Q => ∃ z, xs = [.str z] ∧ z.length ≤ sizeLine ∧ Q (.int z.length) H
def rInt1 : List V → Hp → VK → Prop := fun xs H Q => (∃ i, xs = [.int i] ∧ Q (.int i) H) ∨ ∃ k, xs = [.bl k] ∧ Q (.int (if k then 1 else 0)) H
def rListOf (K : PySem.W.Frag) : List V → Hp → VK → Prop := fun xs H Q => ∃ p ys, xs = [.ref p] ∧ (SqL K H p ys ∨ SqT K H p ys) ∧ ∀ l, H l = none → Q (.ref l) (upd H l (.lst ys))
def rTupOf (K : PySem.W.Frag) : List V → Hp → VK → Prop := fun xs H Q => ∃ p ys, xs = [.ref p] ∧ ((SqL K H p ys ∧ ∀ l, H l = none → Q (.ref l) (upd H l (.tup ys))) ∨ (SqT K H p ys ∧ Q (.ref p) H))
section
variable {X : Cx}
theorem c_len : CallR X (.builtin "len") (rLen X.K) := call_len_seq
theorem c_lenS : CallR X (.builtin "len") rLenS := call_len_str
theorem c_int1 : CallR X (.type "int") rInt1 := call_int1
theorem c_list : CallR X (.type "list") (rListOf X.K) := call_list_of
theorem c_tuple : CallR X (.type "tuple") (rTupOf X.K) := call_tuple_of
end
/-! ## steps through a reading -/
section
variable {D : Ends} {σ : St} {H : Hp} {Q : VK} {t u : TS} {te ta tb : TE} {g : TG} {x y v : V} {K : PySem.W.Frag}
theorem r_seq (h : t { D with nx := u D } σ H) : tSeq t u D σ H := h
theorem r_next (h : D.nx σ H) : tNext D σ H := h
theorem r_asg (h : te σ H fun x H1 => g x σ H1 D.nx) : tAsg te g D σ H := h
theorem r_gname {i : Nat} {σ' : St} {R : St → Hp → Prop} (e : σ.set i (some v) = σ') (h : R σ' H) : gName i v σ H R := by
  unfold gName
  rw [e]
  exact h
theorem r_ret (h : te σ H D.rt) : tRet te D σ H := h
theorem r_retN (h : D.rt .non H) : tRetN D σ H := h
theorem r_drop (h : te σ H fun _ H1 => D.nx σ H1) : tDrop te D σ H := h
theorem r_ifs {c : TT} (h : c σ H fun b H1 => if b = true then t D σ H1 else u D σ H1) : tIfS c t u D σ H := h
theorem r_var {i : Nat} (h : σ[i]? = some (some v)) (q : Q v H) : tVar i σ H Q := ⟨v, h, q⟩
theorem r_c (q : Q v H) : tC v σ H Q := q
theorem r_op {r : R2} (h : ta σ H fun x H1 => tb σ H1 fun y H2 => r x y H2 Q) : tOp r ta tb σ H Q := h
theorem r_i0 {f : Int → Int → V} {i j : Int} (h : Q (f i j) H) : rI0 f (.int i) (.int j) H Q := ⟨i, j, rfl, rfl, h⟩
theorem r_i {C : Int → Int → Prop} {f : Int → Int → V} {i j : Int} (c : C i j) (h : Q (f i j) H) : rI C f (.int i) (.int j) H Q := ⟨i, j, rfl, rfl, c, h⟩
theorem r_eqi {i j : Int} (h : Q (.bl (decide (i = j))) H) : rEq (.int i) (.int j) H Q := ⟨rfl, by rwa [show decide (V.int i = V.int j) = decide (i = j) from by simp]⟩
theorem r_eqs {i j : Str} (h : Q (.bl (decide (i = j))) H) : rEq (.str i) (.str j) H Q := ⟨rfl, by rwa [show decide (V.str i = V.str j) = decide (i = j) from by simp]⟩
theorem r_eqb {i j : Bool} (h : Q (.bl (decide (i = j))) H) : rEq (.bl i) (.bl j) H Q := ⟨rfl, by rwa [show decide (V.bl i = V.bl j) = decide (i = j) from by simp]⟩
theorem r_eq (s : scal x y = true) (h : Q (.bl (decide (x = y))) H) : rEq x y H Q := ⟨s, h⟩
theorem r_nei {i j : Int} (h : Q (.bl (!decide (i = j))) H) : rNe (.int i) (.int j) H Q := ⟨rfl, by rwa [show decide (V.int i = V.int j) = decide (i = j) from by simp]⟩
theorem r_nes {i j : Str} (h : Q (.bl (!decide (i = j))) H) : rNe (.str i) (.str j) H Q := ⟨rfl, by rwa [show decide (V.str i = V.str j) = decide (i = j) from by simp]⟩
theorem r_neb {i j : Bool} (h : Q (.bl (!decide (i = j))) H) : rNe (.bl i) (.bl j) H Q := ⟨rfl, by rwa [show decide (V.bl i = V.bl j) = decide (i = j) from by simp]⟩
theorem r_ne (s : scal x y = true) (h : Q (.bl (!decide (x = y))) H) : rNe x y H Q := ⟨s, h⟩
theorem r_test {R : Bool → Hp → Prop} (h : te σ H fun x H' => ∃ k, x = .bl k ∧ R k H') : tTest te σ H R := h
theorem r_tb {R : Bool → Hp → Prop} (h : te σ H fun x H' => ∃ k, x = .bl k ∧ R k H') : tB te σ H R := h
theorem r_bl {b : Bool} {R : Bool → Prop} (h : R b) : ∃ k, V.bl b = V.bl k ∧ R k := ⟨b, rfl, h⟩
theorem r_and {p q : TT} {R : Bool → Hp → Prop} (h : p σ H fun c H1 => if c = true then q σ H1 R else R false H1) : tAnd p q σ H R := h
theorem r_or {p q : TT} {R : Bool → Hp → Prop} (h : p σ H fun c H1 => if c = true then R true H1 else q σ H1 R) : tOr p q σ H R := h
theorem r_not {p : TT} {R : Bool → Hp → Prop} (h : p σ H fun c H1 => R (!c) H1) : tNot p σ H R := h
theorem r_andV (h : ta σ H fun x H1 => ∃ c, x = .bl c ∧ if c = true then tb σ H1 Q else Q (.bl false) H1) : tAndV ta tb σ H Q := h
theorem r_orV (h : ta σ H fun x H1 => ∃ c, x = .bl c ∧ if c = true then Q (.bl true) H1 else tb σ H1 Q) : tOrV ta tb σ H Q := h
theorem r_notV (h : ta σ H fun x H1 => ∃ c, x = .bl c ∧ Q (.bl (!c)) H1) : tNotV ta σ H Q := h
theorem r_if {c : TT} (h : c σ H fun b H1 => if b = true then ta σ H1 Q else tb σ H1 Q) : tIf c ta tb σ H Q := h
theorem r_nil {R : List V → Hp → Prop} (h : R [] H) : tNil σ H R := h
theorem r_cons {tr : TA} {R : List V → Hp → Prop} (h : te σ H fun x H1 => tr σ H1 fun xs H2 => R (x :: xs) H2) : tCons te tr σ H R := h
def lstEnd (Q : VK) : List V → Hp → Prop := fun xs H1 => xs.length ≤ sizeLine ∧ ∀ p, H1 p = none → Q (.ref p) (upd H1 p (.lst xs))
def tupEnd (Q : VK) : List V → Hp → Prop := fun xs H1 => xs.length ≤ sizeLine ∧ ∀ p, H1 p = none → Q (.ref p) (upd H1 p (.tup xs))
theorem r_lst {tr : TA} (h : tr σ H (lstEnd Q)) : tLst tr σ H Q := h
theorem r_tup {tr : TA} (h : tr σ H (tupEnd Q)) : tTup tr σ H Q := h
theorem r_lstE {xs : List V} (l : xs.length ≤ sizeLine) (k : ∀ p H', H p = none → Same H H' → H' p = some (.lst xs) → Q (.ref p) H') : lstEnd Q xs H := ⟨l, fun p n => k p _ n (same_new n) upd_same⟩
theorem r_tupE {xs : List V} (l : xs.length ≤ sizeLine) (k : ∀ p H', H p = none → Same H H' → H' p = some (.tup xs) → Q (.ref p) H') : tupEnd Q xs H := ⟨l, fun p n => k p _ n (same_new n) upd_same⟩
theorem r_cb {r : List V → Hp → VK → Prop} {tr : TA} (h : tr σ H fun vs H1 => r vs H1 Q) : tCB r tr σ H Q := h
theorem r_call {sp : Sp} {dvs : List V} {E : XK} {tr : TA} (h : tr σ H fun vs H1 => sp (vs ++ dvs) H1 Q E) : tCall sp dvs E tr σ H Q := h
theorem r_dget (h : ta σ H fun x H1 => tb σ H1 fun y H2 => ∃ a v, x = .ref a ∧ DGet H2 a y (some v) ∧ Q v H2) : tDGet ta tb σ H Q := h
theorem r_dgetK {p : Addr} {kvs : List (Key × V)} {k : Str} {R : V → Prop} (h : H p = some (.dK kvs)) (e : valV kvs (.inr k) = some v) (q : R v) : ∃ a v, V.ref p = .ref a ∧ DGet H a (.str k) (some v) ∧ R v := ⟨p, v, rfl, dg h e, q⟩
theorem r_dput {tv : TE} (h : tv σ H fun v H1 => ta σ H1 fun x H2 => tb σ H2 fun y H3 => ∃ a H4, x = .ref a ∧ DPut H3 a y v H4 ∧ D.nx σ H4) : sDPut ta tb tv D σ H := h
theorem r_dputU {p : Addr} {kvs kvs' : List (Key × V)} {k : Str} {R : Hp → Prop} (e : putK kvs (.inr k) v = kvs') (hl : kvs.length < sizeLine) (q : R (upd H p (.dK kvs'))) : ∃ a H4, V.ref p = .ref a ∧ DPut (upd H p (.dK kvs)) a (.str k) v H4 ∧ R H4 := ⟨p, _, rfl, dpu e hl, q⟩
theorem r_dputK {p : Addr} {kvs kvs' : List (Key × V)} {k : Str} {R : Hp → Prop} (h : H p = some (.dK kvs)) (e : putK kvs (.inr k) v = kvs') (hl : kvs.length < sizeLine) (q : R (upd H p (.dK kvs'))) : ∃ a H4, V.ref p = .ref a ∧ DPut H a (.str k) v H4 ∧ R H4 := ⟨p, _, rfl, dp h e hl, q⟩
theorem r_len {p : Addr} {ys : List V} (h : SqL K H p ys) (q : Q (.int ys.length) H) : rLen K [.ref p] H Q := ⟨p, ys, rfl, .inl h, q⟩
theorem r_lenT {p : Addr} {ys : List V} (h : SqT K H p ys) (q : Q (.int ys.length) H) : rLen K [.ref p] H Q := ⟨p, ys, rfl, .inr h, q⟩
theorem r_int1 {i : Int} (q : Q (.int i) H) : rInt1 [.int i] H Q := .inl ⟨i, rfl, q⟩
theorem r_listL {p : Addr} {ys : List V} (h : SqL K H p ys) (q : ∀ l, H l = none → Q (.ref l) (upd H l (.lst ys))) : rListOf K [.ref p] H Q := ⟨p, ys, rfl, .inl h, q⟩
theorem r_listT {p : Addr} {ys : List V} (h : SqT K H p ys) (q : ∀ l, H l = none → Q (.ref l) (upd H l (.lst ys))) : rListOf K [.ref p] H Q := ⟨p, ys, rfl, .inr h, q⟩
theorem r_tupL {p : Addr} {ys : List V} (h : SqL K H p ys) (q : ∀ l, H l = none → Q (.ref l) (upd H l (.tup ys))) : rTupOf K [.ref p] H Q := ⟨p, ys, rfl, .inl ⟨h, q⟩⟩
theorem r_tupT {p : Addr} {ys : List V} (h : SqT K H p ys) (q : Q (.ref p) H) : rTupOf K [.ref p] H Q := ⟨p, ys, rfl, .inr ⟨h, q⟩⟩
theorem r_ixL {p : Addr} {xs : List V} {i : Int} (h : SqL K H p xs) (a : atI xs i = some v) (q : Q v H) : rIxL K (.ref p) (.int i) H Q := ⟨p, xs, i, v, rfl, rfl, h, a, q⟩
theorem r_ixT {p : Addr} {xs : List V} {i : Int} (h : SqT K H p xs) (a : atI xs i = some v) (q : Q v H) : rIxT K (.ref p) (.int i) H Q := ⟨p, xs, i, v, rfl, rfl, h, a, q⟩
theorem r_never (h : False) : tNever D σ H := h
end
theorem at_any {α : Type} {xs : List α} {a : Int} (h0 : 0 ≤ a) (h : a < (xs.length : Nat)) : ∃ z, z ∈ xs ∧ xs[a.toNat]? = some z ∧ atI xs a = some z := by
  obtain ⟨n, rfl⟩ := Int.eq_ofNat_of_zero_le h0
  have hk : n < xs.length := by omega
  exact ⟨xs[n], List.getElem_mem hk, by rw [Int.toNat_natCast]; exact List.getElem?_eq_getElem hk, atI_nat (List.getElem?_eq_getElem hk)⟩
theorem at_int {ns : List Int} {a : Int} (h0 : 0 ≤ a) (h : a < ((ns.map V.int).length : Nat)) : ∃ z, z ∈ ns ∧ atI (ns.map V.int) a = some (V.int z) := by
  obtain ⟨v, hv, _, e⟩ := at_any h0 h
  obtain ⟨z, hz, rfl⟩ := List.mem_map.mp hv
  exact ⟨z, hz, e⟩
theorem pen_put {H : Hp} {p c : Addr} {ns : List Int} {a r g m t : Int} (h : H c = some (.lst (ns.map V.int))) (n : c ≠ p) (ha : 0 ≤ a) (hm : 0 ≤ m) (hm2 : m < 2147483648) : PenStep p c H (upd H p (.dK (pk c a r g m t))) :=
  ⟨⟨ns, a, r, g, m, t, upd_same, by rw [upd_ne n]; exact h, ha, hm, hm2⟩, fun b o nb e => by rw [upd_ne nb]; exact e⟩
theorem wide100 {i b : Int} (h : 0 < b) (hb : b < 2 ^ 100) : CDivW i b := wide_div h (b := 100) (by omega) (by decide) (by decide)
theorem pow18 : CPow 10 18 := ⟨by decide, by decide, by decide⟩
/-- what a heap holds, carried over a step with the pen -/
def isDi : HO → Bool
  | .dK _ => true
  | .dT _ => true
  | .own _ => false
  | _ => false
theorem PenAt.ne {H : Hp} {p c b : Addr} {o : HO} (h : PenAt H p c) (e : H b = some o) (d : isDi o = false) : b ≠ p := fun z => by
  obtain ⟨ns, a, r, g, m, t, h1, _⟩ := h.ex
  rw [z, h1] at e
  cases Option.some.inj e
  cases d
theorem PenStep.at {p c b : Addr} {H H' : Hp} {o : HO} (s : PenStep p c H H') (h : PenAt H p c) (e : H b = some o) (d : isDi o = false) : H' b = some o := s.keep b o (h.ne e d) e
theorem PenStep.atd {p c b : Addr} {H H' : Hp} {o : HO} (s : PenStep p c H H') (e : H b = some o) (d : b ≠ p) : H' b = some o := s.keep b o d e
theorem Same.at {b : Addr} {H H' : Hp} {o : HO} (s : Same H H') (e : H b = some o) : H' b = some o := s b o e
theorem PenStep.free {p c b : Addr} {H H' : Hp} (s : PenStep p c H H') (e : H' b = none) : H b = none := by
  cases q : H b with
  | none => rfl
  | some o =>
    by_cases z : b = p
    · obtain ⟨u, h1⟩ := s.pen.some_p
      rw [z, h1] at e
      cases e
    · rw [s.keep b o z q] at e
      cases e
theorem same_put {H H1 : Hp} {q : Addr} {o : HO} (a : Same H H1) (n : H q = none) : Same H (upd H1 q o) := fun b u e => by rw [upd_ne (ne_of_none e n)]; exact a b u e
theorem r_pick {K : PySem.W.Frag} {H : Hp} {q : Addr} {r : Int} {l : List V} {Q : VK} (ns : List Str) (h : H q = some (.lst l)) (e : l = ns.map V.str) (h0 : 0 ≤ r) (h1 : r < (ns.length : Nat)) (k : ∀ a, a ∈ ns → Q (.str a) H) : rIxL K (.ref q) (.int r) H Q := by
  subst e
  obtain ⟨v, hv, _, e⟩ := at_any (xs := ns.map V.str) h0 (by rw [List.length_map]; exact h1)
  obtain ⟨z, hz, rfl⟩ := List.mem_map.mp hv
  exact r_ixL (SqL.of h) e (k z hz)
end Wm
namespace Wm
open PySem L2 PySem.Spec
open PyProof.Rows hiding St
section
variable {X : Cx}
/-- x == y where x is an instance of a class with its own __eq__ -/
def rEqOwn (K : PySem.W.Frag) (C : Addr) (sp : Sp) (E : XK) : R2 := fun x y H Q => ∃ a dx fs tb, x = .ref a ∧ H a = some (.ins C dx fs) ∧ TyX K H y tb ∧ PySem.W.notFirst K C tb = true ∧ sp [x, y] H (fun v H' => (∃ b, v = .bl b) ∧ Q v H') E
theorem op_eqOwn {CX : CXT} {C f : Addr} {fd : FuncData} {ps : List Str} {k : Nat} {sp : Sp} {E : XK} (F : FnOk X.prog X.w X.K X.mg X.base CX k f fd ps sp) (hr : Room k X.A)
    (hm : Meth X.K C "__eq__" f) (hb : Binds X.K fd ps []) (hx : Passes CX X E) : OpR X (compareOp .Eq) (rEqOwn X.K C sp E) := by
  intro pins s σ H x y v u Q I rx ry hq
  obtain ⟨a, dx, fs, tb, rfl, ha, ty, hn, hsp⟩ := hq
  cases rx
  obtain ⟨mA, J, _⟩ := ins_get I.hok ha
  obtain ⟨od, J, _⟩ := J.look
  obtain ⟨m, hF⟩ := I.fr
  obtain ⟨PP, Z, hp, _⟩ := kit_of I ry ty
  show wpAny (model X.prog X.w) X.A (richCompare .Eq (.ref a) u) (EP X pins σ Q) X.xe s
  refine PySem.W.cmp_K (op := .Eq) (tb := tb) hr.units0 hF I.ok.mod.kin J (Z.ty _ _ I.kIn hp) hn hm.at_ hm.fn ?_
  refine wpAny_mono (run_fn F hr hb .nil hx I (vs := [.ref a, y]) (us := [.ref a, u]) (.cons rfl (.cons ry .nil)) hsp) (fun r s' z => ?_) fun _ _ e => e
  obtain ⟨v, H', I', rv, hvb, q⟩ := z
  obtain ⟨b', rfl⟩ := hvb
  cases rv
  exact ⟨.bl b', H', I', rfl, q⟩
/-- C(e, .., k = v, ..) in a try: what is wished of an error hangs on the slots -/
def tMakeKS (C : Addr) (n m : Nat) (sp : Sp) (gV : List V → List V → List V) (E : St → XK) (t tk : TA) : TE := fun σ H Q => t σ H fun vs H1 => tk σ H1 fun zs H2 => vs.length = n ∧ zs.length = m ∧ ∀ x dx, H2 x = none → H2 dx = none → dx ≠ x →
  sp (gV (.ref x :: vs) zs) (upd (upd H2 dx (.own x)) x (.ins C dx [])) (fun v H3 => v = .non ∧ Q (.ref x) H3) (E σ)
section
variable {CX : CXT} {k n : Nat} {f C : Addr} {fd : FuncData} {ps ks : List Str} {sp : Sp} {E : St → XK} {x : Str} {p pos : Pos} {e : Expr} {es : List Expr} {kws : List Keyword} {t tk : TA} {g : List Value → List Value → List Value} {gV : List V → List V → List V}
theorem run_makeKS {pins : List (Addr × Obj)} {σ : St} {H : Hp} {s : Shared} {Q : VK} {us ws : List Value} {vs zs : List V} (M : Mk X.K C f) (F : FnOk X.prog X.w X.K X.mg X.base CX k f fd ps sp) (hr : Room (k + 1) X.A) (hb : KBn X.K fd ps (n + 1) ks g gV) (hx : PassesAt CX X σ (E σ))
    (I : Inv X pins σ H s) (r : Vals vs us) (rz : Vals zs ws) (l1 : vs.length = n) (l2 : zs.length = ks.length)
    (h : ∀ x dx, H x = none → H dx = none → dx ≠ x → sp (gV (.ref x :: vs) zs) (upd (upd H dx (.own x)) x (.ins C dx [])) (fun v H2 => v = .non ∧ Q (.ref x) H2) (E σ)) :
    wpAny (model X.prog X.w) X.A (call (.ref C) us (ks.zip ws)) (EP X pins σ Q) X.xe s := by
  have hq := h (s.heap.objs.size + 1) s.heap.objs.size (I.hok.fresh (Nat.le_succ _)) (I.hok.fresh (Nat.le_refl _)) (Nat.ne_of_lt (Nat.lt_succ_self _))
  have I2 := Inv.made (C := C) I
  have r1 : Vals (V.ref (s.heap.objs.size + 1) :: vs) (Value.ref (s.heap.objs.size + 1) :: us) := .cons rfl r
  have r2 := hb.rel r1 rz
  have n1 : (Value.ref (s.heap.objs.size + 1) :: us).length = n + 1 := by rw [List.length_cons, ← r.length, l1]
  refine wpAny_call (make_map (f := f) I.kIn M.makes M.init (beq_iff_eq.mp M.fn) (codeAny_mono (F.run _ X.stack _ _ ⟨Value.ref (s.heap.objs.size + 1) :: us, ks.zip ws⟩ (g (Value.ref (s.heap.objs.size + 1) :: us) ws) _ _ (E σ) (hr.make C us (ks.zip ws))
    (I2.env0.make C us (ks.zip ws)) (hb.to _ (Value.ref (s.heap.objs.size + 1) :: us) ws I2.kIn n1 (rz.length.symm.trans l2)) r2 hq) fun r s' hq' => ?_))
  cases r with
  | error e => exact hx pins _ _ e s' I2 hq'
  | ok fl =>
    cases fl with
    | ret u =>
      obtain ⟨v, H', I3, rv, ev, q3⟩ := I2.after hq'
      subst ev
      exact ⟨rv, ⟨V.ref (s.heap.objs.size + 1), H', I3, rfl, q3⟩⟩
    | next => exact False.elim hq'
    | brk => exact False.elim hq'
    | cont => exact False.elim hq'
theorem pe_makeKS (M : Mk X.K C f) (F : FnOk X.prog X.w X.K X.mg X.base CX k f fd ps sp) (hr : Room (k + 1) X.A) (hg : Gl X x) (hm : X.mg x = some (.ref C)) (hb : KBn X.K fd ps (n + 1) ks g gV) (hx : ∀ σ, PassesAt CX X σ (E σ)) (ha : PA X (e :: es) t) (hkw : PK X kws tk)
    (hall : (backToKw pos (keywordEach kws X.env)).all (·.1.isSome) = true := by rfl) (hks : (backToKw pos (keywordEach kws X.env)).filterMap (·.1) = ks := by rfl) (hdb : (x == ("__debug__" : Str)) = false := by decide)
    (he : starEach (e :: es) X.env = (false, eval e X.env) :: starEach es X.env := by rfl) (hpl : ((backTo pos (starEach (e :: es) X.env)).any (·.1) || (backToKw pos (keywordEach kws X.env)).any (·.1.isNone)) = false := by rfl) :
    PE X (.Call (.Name x p) (e :: es) kws pos) (tMakeKS C n ks.length sp gV E t tk) := by
  refine ⟨fun pins s σ H Q I h => ?_⟩
  refine wpAny_Call_Name_kw (ld_glob I hg hm ?_ hdb)
  refine PySem.W.callWith_KW (h₀ := X.base) I.ok.mod.kin M.kp hall (thn (ha.run pos pins s σ H _ I h) fun us s1 ⟨vs, H1, I1, r, q⟩ => ?_) hpl he
  refine thn (hkw.run pos pins s1 σ H1 _ I1 q) fun ws s2 ⟨zs, H2, I2, rz, l1, l2, q2⟩ => ⟨I2.kIn, ?_⟩
  rw [hks]
  exact run_makeKS M F hr hb (hx σ) I2 r rz l1 l2 q2
end
end
section
variable {D : Ends} {σ : St} {H : Hp} {Q : VK} {K : PySem.W.Frag} {x y : V}
theorem r_isi {T a : String} {b : Bool} (h : TyX K H x (.type a)) (e : kitB a T = some b) (q : Q (.bl b) H) : rIsi K [x, .ty T] H Q := ⟨x, .ty T, .type a, .type T, b, rfl, .ty T, h, kit_ty e, q⟩
theorem r_fld {ta : TE} {f : Str} (h : ta σ H fun x H1 => ∃ a C dx fs v, x = .ref a ∧ H1 a = some (.ins C dx fs) ∧ Cls K C ∧ NoAttr K C f ∧ fs.lookup f = some v ∧ Q v H1) : tFld K ta f σ H Q := h
theorem r_fldK {p C dx : Addr} {fs : List (Str × V)} {f : Str} {v : V} {R : V → Prop} (h : H p = some (.ins C dx fs)) (c : Cls K C) (n : NoAttr K C f) (e : fs.lookup f = some v) (q : R v) :
    ∃ a C dx fs v, V.ref p = .ref a ∧ H a = some (.ins C dx fs) ∧ Cls K C ∧ NoAttr K C f ∧ fs.lookup f = some v ∧ R v := ⟨p, C, dx, fs, v, rfl, h, c, n, e, q⟩
theorem r_fldS {ta tv : TE} {f : Str} (h : tv σ H fun y H1 => ta σ H1 fun x H2 => ∃ a C dx fs, x = .ref a ∧ H2 a = some (.ins C dx fs) ∧ Cls K C ∧ NoAttr K C f ∧ fs.length < 1000 ∧ D.nx σ (upd H2 a (.ins C dx (putF f y fs)))) : sFld K ta tv f D σ H := h
theorem r_fldP {p C dx : Addr} {fs fs' : List (Str × V)} {f : Str} {y : V} (h : H p = some (.ins C dx fs)) (c : Cls K C) (n : NoAttr K C f) (l : fs.length < 1000) (e : putF f y fs = fs') (q : D.nx σ (upd H p (.ins C dx fs'))) :
    ∃ a C dx fs, V.ref p = .ref a ∧ H a = some (.ins C dx fs) ∧ Cls K C ∧ NoAttr K C f ∧ fs.length < 1000 ∧ D.nx σ (upd H a (.ins C dx (putF f y fs))) := ⟨p, C, dx, fs, rfl, h, c, n, l, by rw [e]; exact q⟩
theorem r_gsub {to ti : TE} {t : TSet} {v : V} {R : St → Hp → Prop} (h : to σ H fun o H1 => ti σ H1 fun i H2 => t o i v H2 fun H3 => R σ H3) : gSub to ti t v σ H R := h
theorem r_setL {p : Addr} {xs xs' : List V} {k : Int} {j : Nat} {v : V} {R : Hp → Prop} (h : H p = some (.lst xs)) (e : ixN xs.length k = some j) (e2 : xs.set j v = xs') (q : R (upd H p (.lst xs'))) : rSetL (.ref p) (.int k) v H R := ⟨p, xs, k, j, rfl, rfl, h, e, by rw [e2]; exact q⟩
theorem r_gtup {n : Nat} {t : TGs} {p : Addr} {xs : List V} {R : St → Hp → Prop} (h : SqT K H p xs) (l : xs.length = n) (q : t xs σ H R) : gTup K n t (.ref p) σ H R := ⟨p, xs, rfl, h, l, q⟩
theorem r_gcons {t : TG} {u : TGs} {v : V} {r : List V} {R : St → Hp → Prop} (q : t v σ H fun σ' H' => u r σ' H' R) : gCons t u (v :: r) σ H R := ⟨v, r, rfl, q⟩
theorem r_gnil {R : St → Hp → Prop} (q : R σ H) : gNil [] σ H R := ⟨rfl, q⟩
theorem r_bm {T : String} {r : V → List V → Hp → VK → Prop} {to : TE} {t : TA} (h : to σ H fun x H1 => tyV K T x H1 ∧ t σ H1 fun xs H2 => r x xs H2 Q) : tBM K T r to t σ H Q := h
theorem r_bm0 {T : String} {r : V → List V → Hp → VK → Prop} {to : TE} (h : to σ H fun x H1 => tyV K T x H1 ∧ r x [] H1 Q) : tBM0 K T r to σ H Q := h
theorem r_tyL {p : Addr} {xs : List V} {R : Prop} (h : SqL K H p xs) (q : R) : tyV K "list" (.ref p) H ∧ R := ⟨.inl ⟨rfl, xs, h⟩, q⟩
theorem r_append {p : Addr} {xs : List V} {y : V} (h : H p = some (.lst xs)) (l : xs.length < sizeLine) (q : Q .non (upd H p (.lst (xs ++ [y])))) : rAppend (.ref p) [y] H Q := ⟨p, xs, y, rfl, rfl, h, l, q⟩
theorem r_in {neg : Bool} {p : Addr} {xs : List V} {x : V} (h : SqL K H p xs ∨ SqT K H p xs) (f : flatV x = true) (g : xs.all flatV = true) (q : Q (.bl (if neg then !inV x xs else inV x xs)) H) : rIn K neg x (.ref p) H Q := ⟨p, xs, rfl, h, f, g, q⟩
theorem r_eqd {a b : PyData} (h : Dp K H x a) (h' : Dp K H y b) (s : SeqAt.shaped a = true) (s' : SeqAt.shaped b = true) (q : Q (.bl (PyData.eqv a b)) H) : rEqD K x y H Q := ⟨a, b, h, h', s, s', q⟩
theorem r_ned {a b : PyData} (h : Dp K H x a) (h' : Dp K H y b) (s : SeqAt.shaped a = true) (s' : SeqAt.shaped b = true) (q : Q (.bl (!PyData.eqv a b)) H) : rNeD K x y H Q := ⟨a, b, h, h', s, s', q⟩
theorem r_lenK {p : Addr} {ys : List V} (h : H p = some (.lst ys)) (q : Q (.int ys.length) H) : rLen K [.ref p] H Q := r_len (.of h) q
theorem r_lenTK {p : Addr} {ys : List V} (h : H p = some (.tup ys)) (q : Q (.int ys.length) H) : rLen K [.ref p] H Q := r_lenT (.of h) q
theorem r_listLK {p : Addr} {ys : List V} (h : H p = some (.lst ys)) (q : ∀ l H', H l = none → Same H H' → H' l = some (.lst ys) → Q (.ref l) H') : rListOf K [.ref p] H Q := r_listL (.of h) fun l n => q l _ n (same_new n) upd_same
theorem r_listTK {p : Addr} {ys : List V} (h : H p = some (.tup ys)) (q : ∀ l H', H l = none → Same H H' → H' l = some (.lst ys) → Q (.ref l) H') : rListOf K [.ref p] H Q := r_listT (.of h) fun l n => q l _ n (same_new n) upd_same
theorem r_ixLK {p : Addr} {xs : List V} {i : Int} {v : V} (h : H p = some (.lst xs)) (a : atI xs i = some v) (q : Q v H) : rIxL K (.ref p) (.int i) H Q := r_ixL (.of h) a q
theorem r_ixTK {p : Addr} {xs : List V} {i : Int} {v : V} (h : H p = some (.tup xs)) (a : atI xs i = some v) (q : Q v H) : rIxT K (.ref p) (.int i) H Q := r_ixT (.of h) a q
theorem r_gtupK {n : Nat} {t : TGs} {p : Addr} {xs : List V} {R : St → Hp → Prop} (h : H p = some (.tup xs)) (l : xs.length = n) (q : t xs σ H R) : gTup K n t (.ref p) σ H R := r_gtup (.of h) l q
theorem r_tyLK {p : Addr} {xs : List V} {R : Prop} (h : H p = some (.lst xs)) (q : R) : tyV K "list" (.ref p) H ∧ R := r_tyL (.of h) q
theorem r_for {wi : TI} {g : TG} {tb : TS} (h : wi σ H fun J H1 => ∃ W : Nat → Nat → St → Hp → Prop, (∃ m, W 0 m σ H1) ∧ ∀ i m σ H, W i m σ H →
  (J.stop i H ∧ D.nx σ H) ∨ (J.go i H ∧ ∃ N : St → Hp → Prop, (∀ σ' H', N σ' H' → ∃ m', m' < m ∧ W (i + 1) m' σ' H') ∧ ∀ x H', J.yld i H x H' → g x σ H' fun σ2 H2 => tb { D with nx := N, ct := N, bk := D.nx } σ2 H2)) : tFor wi g tb D σ H := h
theorem r_il {tl : TE} {R : It → Hp → Prop} (h : tl σ H fun x H1 => ∃ a, x = .ref a ∧ (∃ xs, SqL K H1 a xs) ∧ R (Itl K a) H1) : iList K tl σ H R := h
theorem r_it {tl : TE} {R : It → Hp → Prop} (h : tl σ H fun x H1 => ∃ a, x = .ref a ∧ (∃ xs, SqT K H1 a xs) ∧ R (Itt K a) H1) : iTup K tl σ H R := h
theorem r_rng1 {ta : TA} {R : It → Hp → Prop} (h : ta σ H fun vs H1 => ∃ j : Int, vs = [.int j] ∧ -(2 ^ 62) ≤ j ∧ j < 2 ^ 62 ∧ R (Itr 0 j.toNat) H1) : iRng1 ta σ H R := h
theorem r_rngK {j : Int} {R : Int → Prop} (h1 : -(2 ^ 62) ≤ j) (h2 : j < 2 ^ 62) (q : R j) : ∃ k : Int, [V.int j] = [.int k] ∧ -(2 ^ 62) ≤ k ∧ k < 2 ^ 62 ∧ R k := ⟨j, rfl, h1, h2, q⟩
theorem r_ilK {p : Addr} {xs : List V} {R : Addr → Prop} (h : SqL K H p xs) (q : R p) : ∃ a, V.ref p = .ref a ∧ (∃ xs, SqL K H a xs) ∧ R a := ⟨p, rfl, ⟨xs, h⟩, q⟩
theorem r_itK {p : Addr} {xs : List V} {R : Addr → Prop} (h : SqT K H p xs) (q : R p) : ∃ a, V.ref p = .ref a ∧ (∃ xs, SqT K H a xs) ∧ R a := ⟨p, rfl, ⟨xs, h⟩, q⟩
theorem r_dnew (q : ∀ p H', H p = none → Same H H' → H' p = some (.dK []) → Q (.ref p) H') : tDNewK σ H Q := fun p n => q p _ n (same_new n) upd_same
def dispEnd (p : Addr) (Q : VK) : List (V × V) → Hp → Prop := fun ps H2 => H2 p = some (.dK []) ∧ ∃ kvs : List (Key × V), ps = kvs.map (fun kv => (kV kv.1, kv.2)) ∧ kvs.length ≤ 15 ∧ Q (.ref p) (upd H2 p (.dK (mergeK [] kvs)))
theorem r_disp {trs : List (TE × TE)} (h : ∀ p H', H p = none → Same H H' → H' p = some (.dK []) → tPairs trs σ H' (dispEnd p Q)) : tDisp trs σ H Q := fun p n => h p _ n (same_new n) upd_same
theorem r_dispE {p : Addr} {ps : List (V × V)} (kvs kvs' : List (Key × V)) (h : H p = some (.dK [])) (e : ps = kvs.map (fun kv => (kV kv.1, kv.2))) (l : kvs.length ≤ 15) (e2 : mergeK [] kvs = kvs') (q : Q (.ref p) (upd H p (.dK kvs'))) :
    dispEnd p Q ps H := ⟨h, kvs, e, l, by rw [e2]; exact q⟩
theorem r_neg {i : Int} (q : Q (.int (-i)) H) : rU (fun i => .int (-i)) (.int i) H Q := ⟨i, rfl, q⟩
theorem r_un {r : V → Hp → VK → Prop} {ta : TE} (h : ta σ H fun x H1 => r x H1 Q) : tUn r ta σ H Q := h
theorem r_pn {R : List (V × V) → Hp → Prop} (q : R [] H) : tPairs [] σ H R := q
theorem r_pc {tk tv : TE} {r : List (TE × TE)} {R : List (V × V) → Hp → Prop} (q : tk σ H fun k H1 => tv σ H1 fun v H2 => tPairs r σ H2 fun ps H3 => R ((k, v) :: ps) H3) : tPairs ((tk, tv) :: r) σ H R := q
theorem r_anyIx {p : Addr} {r : Int} {l : List V} (h : H p = some (.lst l)) (h0 : 0 ≤ r) {n : Int} (h1 : r < n) (hn : n = (l.length : Nat)) (k : ∀ v, v ∈ l → Q v H) : rIxL K (.ref p) (.int r) H Q := by
  obtain ⟨v, hv, _, e⟩ := at_any h0 (hn ▸ h1)
  exact r_ixL (SqL.of h) e (k v hv)
def erEnd (C : Addr) (fs : List Str) (W : WX) (σ : St) : List V → Hp → Prop := fun vs H1 => vs.length = fs.length ∧ vs.length ≤ 1000 ∧ (fs = [] → W (.ref C) none σ H1) ∧ (fs ≠ [] → ∀ d, H1 d = none → W (.ref C) (some d) σ (upd H1 d (.xd (fs.zip vs))))
theorem r_raiseEr {C : Addr} {fs : List Str} {W : WX} {ta : TA} (h : ta σ H (erEnd C fs W σ)) : tRaiseEr C fs W ta D σ H := h
theorem r_erE {C : Addr} {fs : List Str} {W : WX} {vs : List V} (l : vs.length = fs.length) (l2 : vs.length ≤ 1000) (hn : fs ≠ []) (k : ∀ d H', H d = none → Same H H' → H' d = some (.xd (fs.zip vs)) → W (.ref C) (some d) σ H') : erEnd C fs W σ vs H :=
  ⟨l, l2, fun z => absurd z hn, fun _ d n => k d _ n (same_new n) upd_same⟩
theorem r_erE0 {C : Addr} {W : WX} (k : W (.ref C) none σ H) : erEnd C [] W σ [] H := ⟨rfl, Nat.zero_le _, fun _ => k, fun z => absurd rfl z⟩
theorem r_isiO {C : Addr} {t : Value} {b : Bool} (h : TyX K H x t) (e : PySem.W.kitOne K t (.ref C) = some b) (q : Q (.bl b) H) : rIsi K [x, .ref C] H Q := ⟨x, .ref C, t, .ref C, b, rfl, .own C, h, e, q⟩
/-- what isinstance and == ask of an own class -/
structure OwnC (K : PySem.W.Frag) (C : Addr) : Prop where
  cl : Cls K C
  ha : PySem.W.findIn K (.ref C) "__class__" = some (some (.builtin "object.__class__"))
  hn : PySem.W.specialIn K (.builtin "object.__class__") "__get__" = some (some (.builtin "getset_descriptor.__get__"))
  ht : PySem.W.takesIn K (.builtin "object.__class__") = some true
  hm : PySem.W.mroIn K C (.type "object") = some true
  self : PySem.W.kitOne K (.ref C) (.ref C) = some true
  base : ∀ t, t ∈ ["NoneType", "bool", "int", "str", "list", "tuple", "dict"] → PySem.W.kitOne K (.type t) (.ref C) = some false
theorem OwnC.ty {C p dx : Addr} {fs : List (Str × V)} (o : OwnC K C) (h : H p = some (.ins C dx fs)) : TyX K H (.ref p) (.ref C) := .base (.ins h o.cl o.ha o.hn o.ht o.hm)
def mkQ (Q : VK) (x : Addr) : VK := fun v H3 => v = .non ∧ Q (.ref x) H3
theorem r_mkQ {p : Addr} (q : Q (.ref p) H) : mkQ Q p .non H := ⟨rfl, q⟩
theorem mkQ_eq {p : Addr} : mkQ Q p .non H = (V.non = V.non ∧ Q (.ref p) H) := rfl
def mkEnd (C : Addr) (n m : Nat) (sp : Sp) (gV : List V → List V → List V) (E : XK) (Q : VK) (vs : List V) : List V → Hp → Prop := fun zs H2 => vs.length = n ∧ zs.length = m ∧ ∀ x dx, H2 x = none → H2 dx = none → dx ≠ x →
  sp (gV (.ref x :: vs) zs) (upd (upd H2 dx (.own x)) x (.ins C dx [])) (mkQ Q x) E
def mk1End (C : Addr) (sp : Sp) (dvs : List V) (E : XK) (Q : VK) : List V → Hp → Prop := fun vs H2 => ∀ x dx, H2 x = none → H2 dx = none → dx ≠ x →
  sp (.ref x :: (vs ++ dvs)) (upd (upd H2 dx (.own x)) x (.ins C dx [])) (mkQ Q x) E
theorem same_mk {C x dx : Addr} {fs : List (Str × V)} (n1 : H x = none) (n2 : H dx = none) (n3 : dx ≠ x) : Same H (upd (upd H dx (.own x)) x (.ins C dx fs)) := same_put (same_new n2) n1
theorem r_makeKS {C : Addr} {n m : Nat} {sp : Sp} {gV : List V → List V → List V} {E : St → XK} {tx tk : TA} (h : tx σ H fun vs H1 => tk σ H1 (mkEnd C n m sp gV (E σ) Q vs)) : tMakeKS C n m sp gV E tx tk σ H Q := h
theorem r_makeK {C : Addr} {n m : Nat} {sp : Sp} {gV : List V → List V → List V} {E : XK} {tx tk : TA} (h : tx σ H fun vs H1 => tk σ H1 (mkEnd C n m sp gV E Q vs)) : tMakeK C n m sp gV E tx tk σ H Q := h
theorem r_make {C : Addr} {sp : Sp} {dvs : List V} {E : XK} {tx : TA} (h : tx σ H (mk1End C sp dvs E Q)) : tMake C sp dvs E tx σ H Q := h
theorem r_mkE {C : Addr} {n m : Nat} {sp : Sp} {gV : List V → List V → List V} {E : XK} {vs zs : List V} (l1 : vs.length = n) (l2 : zs.length = m)
    (k : ∀ x dx H', H x = none → Same H H' → H' x = some (.ins C dx []) → sp (gV (.ref x :: vs) zs) H' (mkQ Q x) E) : mkEnd C n m sp gV E Q vs zs H := ⟨l1, l2, fun x dx n1 n2 n3 => k x dx _ n1 (same_mk n1 n2 n3) upd_same⟩
theorem r_mk1E {C : Addr} {sp : Sp} {dvs vs : List V} {E : XK} (k : ∀ x dx H', H x = none → Same H H' → H' x = some (.ins C dx []) → sp (.ref x :: (vs ++ dvs)) H' (mkQ Q x) E) : mk1End C sp dvs E Q vs H := fun x dx n1 n2 n3 => k x dx _ n1 (same_mk n1 n2 n3) upd_same
theorem same_but {p : Addr} {H1 H2 : Hp} (n : H p = none) (s : Same H H1) (k : ∀ b o, b ≠ p → H1 b = some o → H2 b = some o) : Same H H2 := fun b o e => k b o (ne_of_none e n) (s b o e)
theorem r_xf {a : Addr} {cls : Value} {d : Option Addr} {C : Addr} {f : Str} {te : TE} (h : te σ H fun x H1 => x = .ref a ∧ cls = .ref C ∧ ∃ (dd : Addr) (fs : List (Str × V)) (v : V), d = some dd ∧ H1 dd = some (.xd fs) ∧ fs.lookup f = some v ∧ Q v H1) : tXf a cls d C f te σ H Q := h
theorem r_xfK {a C dd : Addr} {fs : List (Str × V)} {f : Str} {v : V} {R : V → Prop} (h : H dd = some (.xd fs)) (e : fs.lookup f = some v) (q : R v) : V.ref a = .ref a ∧ Value.ref C = .ref C ∧ ∃ (d2 : Addr) (fs : List (Str × V)) (v : V), some dd = some d2 ∧ H d2 = some (.xd fs) ∧ fs.lookup f = some v ∧ R v :=
  ⟨rfl, rfl, dd, fs, v, rfl, h, e, q⟩
theorem iteNF {A B : Prop} (h : A) : if (!false) = true then A else B := h
theorem iteNT {A B : Prop} (h : B) : if (!true) = true then A else B := h
theorem inV_strs {x : Str} {ss : List Str} : inV (.str x) (ss.map V.str) = decide (x ∈ ss) := by
  unfold inV
  rw [List.any_map]
  induction ss with
  | nil => rfl
  | cons a l ih =>
    rw [List.any_cons, ih]
    show ((a == x) || _) = _
    by_cases e : a = x
    · subst e
      simp
    · have e' : ¬ x = a := fun z => e z.symm
      simp [e, e']
theorem flat_strs (ss : List Str) : (ss.map V.str).all flatV = true := by
  induction ss with
  | nil => rfl
  | cons a l ih => exact ih
theorem r_inSN {p : Addr} {ss : List Str} {x : Str} (h : SqL K H p (ss.map V.str) ∨ SqT K H p (ss.map V.str)) (q : Q (.bl (!decide (x ∈ ss))) H) : rIn K true (.str x) (.ref p) H Q := r_in h rfl (flat_strs ss) (by rw [inV_strs]; exact q)
theorem r_inSP {p : Addr} {ss : List Str} {x : Str} (h : SqL K H p (ss.map V.str) ∨ SqT K H p (ss.map V.str)) (q : Q (.bl (decide (x ∈ ss))) H) : rIn K false (.str x) (.ref p) H Q := r_in h rfl (flat_strs ss) (by rw [inV_strs]; exact q)
end
end Wm
namespace Wm
open PySem L2 PySem.Spec PySem.W PySem.SeqAt ClX
open PyProof.Rows hiding St
def rEqP (K : PySem.W.Frag) : R2 := fun x y H Q => ∃ d e, Dp K H x d ∧ Dp K H y e ∧ d.plain = true ∧ e.plain = true ∧ d.depth ≤ 64 ∧ Q (.bl (PyData.eqv d e)) H
def rNeP (K : PySem.W.Frag) : R2 := fun x y H Q => ∃ d e, Dp K H x d ∧ Dp K H y e ∧ d.plain = true ∧ e.plain = true ∧ d.depth ≤ 64 ∧ Q (.bl (!PyData.eqv d e)) H
section
variable {X : Cx}
theorem op_eqP (hu : X.A.units + 64 < cLine) : OpR X (compareOp .Eq) (rEqP X.K) := by
  intro pins s σ H x y v u Q I rx ry h
  obtain ⟨d, e, hd, he, sd, se, hdp, q⟩ := h
  obtain ⟨as, r1⟩ := Dp.reads I d x v hd rx
  obtain ⟨bs, r2⟩ := Dp.reads I e y u he ry
  exact eq_plain r1 r2 sd se (by omega) ⟨.bl _, H, I, rfl, q⟩
theorem op_neP (hu : X.A.units + 64 < cLine) : OpR X (compareOp .NotEq) (rNeP X.K) := by
  intro pins s σ H x y v u Q I rx ry h
  obtain ⟨d, e, hd, he, sd, se, hdp, q⟩ := h
  obtain ⟨as, r1⟩ := Dp.reads I d x v hd rx
  obtain ⟨bs, r2⟩ := Dp.reads I e y u he ry
  exact ne_plain r1 r2 sd se (by omega) ⟨.bl _, H, I, rfl, q⟩
end
section
variable {H : Hp} {Q : VK} {K : PySem.W.Frag} {x y : V}
theorem r_eqT {α : Type} [DecidableEq α] [Datum α] (a b : α) (h : Dp K H x (Datum.toD a)) (h' : Dp K H y (Datum.toD b)) (q : Q (.bl (decide (a = b))) H) (hd : Datum.depth α ≤ 64 := by decide) : rEqP K x y H Q :=
  ⟨_, _, h, h', Datum.plain a, Datum.plain b, Nat.le_trans (Datum.depth_le a) hd, by rw [Datum.eqv]; exact q⟩
theorem r_neT {α : Type} [DecidableEq α] [Datum α] (a b : α) (h : Dp K H x (Datum.toD a)) (h' : Dp K H y (Datum.toD b)) (q : Q (.bl (!decide (a = b))) H) (hd : Datum.depth α ≤ 64 := by decide) : rNeP K x y H Q :=
  ⟨_, _, h, h', Datum.plain a, Datum.plain b, Nat.le_trans (Datum.depth_le a) hd, by rw [Datum.eqv]; exact q⟩
theorem dps_str : ∀ (ss : List Str), DpAll K H (ss.map V.str) (ss.map Datum.toD)
  | [] => .nil
  | s :: ss => .cons (.str s) (dps_str ss)
theorem dp_strs {p : Addr} {ss : List Str} (h : H p = some (.lst (ss.map V.str))) : Dp K H (.ref p) (Datum.toD ss) := .lst (.of h) (dps_str ss)
theorem dp_strsT {p : Addr} {ss : List Str} (h : H p = some (.tup (ss.map V.str))) : Dp K H (.ref p) (Datum.toD (Tup.mk ss)) := .tup (.of h) (dps_str ss)
theorem dp_strsTK {p : Addr} {ss : List Str} (h : SqT K H p (ss.map V.str)) : Dp K H (.ref p) (Datum.toD (Tup.mk ss)) := .tup h (dps_str ss)
/-- two lists of texts -/
theorem r_eqSS {p q : Addr} {xs ys : List V} (ss tt : List Str) (h : H p = some (.lst xs)) (h' : H q = some (.lst ys)) (e : xs = ss.map V.str) (e' : ys = tt.map V.str) (k : Q (.bl (decide (ss = tt))) H) : rEqP K (.ref p) (.ref q) H Q :=
  r_eqT ss tt (dp_strs (e ▸ h)) (dp_strs (e' ▸ h')) k
theorem r_neSS {p q : Addr} {xs ys : List V} (ss tt : List Str) (h : H p = some (.lst xs)) (h' : H q = some (.lst ys)) (e : xs = ss.map V.str) (e' : ys = tt.map V.str) (k : Q (.bl (!decide (ss = tt))) H) : rNeP K (.ref p) (.ref q) H Q :=
  r_neT ss tt (dp_strs (e ▸ h)) (dp_strs (e' ▸ h')) k
theorem r_glst {σ : St} {n : Nat} {t : TGs} {p : Addr} {xs : List V} {R : St → Hp → Prop} (h : H p = some (.lst xs)) (l : xs.length = n) (q : t xs σ H R) : gLst K n t (.ref p) σ H R := ⟨p, xs, rfl, .of h, l, q⟩
theorem r_cval {σ : St} {ta : TE} {f : Str} (h : ta σ H fun x H1 => ∃ C mc v u, x = .ref C ∧ CRead K C mc ∧ CVal K C mc f v u ∧ Q v H1) : tCVal K ta f σ H Q := h
theorem r_cvalK {C : Addr} {mc u : Value} {f : Str} {v : V} {R : V → Prop} (a : CRead K C mc) (b : CVal K C mc f v u) (q : R v) : ∃ C' mc v u, V.ref C = .ref C' ∧ CRead K C' mc ∧ CVal K C' mc f v u ∧ R v := ⟨C, mc, v, u, rfl, a, b, q⟩
theorem r_rEqOwn {a C dx : Addr} {fs : List (Str × V)} {tb : Value} {sp : Sp} {E : XK} (h : H a = some (.ins C dx fs)) (ty : TyX K H y tb) (n : PySem.W.notFirst K C tb = true) (k : sp [.ref a, y] H (fun v H' => (∃ b, v = .bl b) ∧ Q v H') E) : rEqOwn K C sp E (.ref a) y H Q := ⟨a, dx, fs, tb, rfl, h, ty, n, k⟩
theorem r_ifJ {t u : TS} {D : Ends} {σ : St} {b : Bool} (P : St → Hp → Prop) (rest : ∀ σ H, P σ H → D.nx σ H) (k : ∀ N : St → Hp → Prop, (∀ σ H, P σ H → N σ H) → if b = true then t { D with nx := N } σ H else u { D with nx := N } σ H) : if b = true then t D σ H else u D σ H := k D.nx rest
theorem r_nebE {i j : Bool} (e : i = j) (q : Q (.bl false) H) : rNe (.bl i) (.bl j) H Q := ⟨rfl, by rwa [show decide (V.bl i = V.bl j) = true from by simp [e]]⟩
theorem r_neSE {p q : Addr} {xs ys : List V} (ss : List Str) (h : H p = some (.lst xs)) (h' : H q = some (.lst ys)) (e : xs = ss.map V.str) (e' : ys = ss.map V.str) (k : Q (.bl false) H) : rNeP K (.ref p) (.ref q) H Q :=
  r_neSS ss ss h h' e e' (by rwa [show (!decide (ss = ss)) = false from by simp])
theorem r_eqT1 {α : Type} [DecidableEq α] [Datum α] (a : α) (h : Dp K H x (Datum.toD a)) (h' : Dp K H y (Datum.toD a)) (q : Q (.bl true) H) (hd : Datum.depth α ≤ 64 := by decide) : rEqP K x y H Q :=
  r_eqT a a h h' (by rwa [show decide (a = a) = true from by simp]) hd
theorem r_setLN {p : Addr} {xs : List V} {j : Nat} {v : V} {R : Hp → Prop} (h : H p = some (.lst xs)) (e : j < xs.length) (q : R (upd H p (.lst (xs.set j v)))) : rSetL (.ref p) (.int (j : Int)) v H R := r_setL h (Evl.ixN_nat e) rfl q
theorem ite_nd {p q : Bool} {A B : Prop} (e : p = q) (h : B) : if (!decide (p = q)) = true then A else B := by
  rw [e]
  simpa using h
end
end Wm
namespace Wm
open PySem L2 PySem.Er PySem.W
theorem er_mk {prog : Program} {K : Frag} {qual : Str} {fs : List Str} {C fI cda cc : Addr} {oc ct ccl cl doc pm : Value} {od an cdd cld : Option Addr} {params : Arguments} {body : List Stmt} {scope : Scope} {osl ccs csl : Array (Option Value)} {vs : Array Value} {file : Str} {tf : Tok}
    {B newId initId : String} {bmB : List Value} (KF : KxsFacts B initId) (FB : ExcBaseFacts B newId initId bmB) (SF : StoreFacts B bmB "object.__setattr__" "object") (fm : IForm fs params body scope)
    (init : findIn K (.ref C) "__init__" = some (some (.ref fI))) (ty : typeIn K (.ref fI) = some (.type "function"))
    (lk : K.lookup fI = some ⟨oc, od, .func (ksFn "__init__" qual params body scope .none .none doc pm an (.ref cda) ct cc), osl⟩) (hc : codeIn K (.ref cda) qual = true)
    (code : K.lookup cda = some ⟨ccl, cdd, .fields vs, ccs⟩) (hv : vs[2]? = some (.str file tf)) (hf : ((prog.main.file : Str) == file) = true) (cell : K.lookup cc = some ⟨cl, cld, .cell (some (.ref C)), csl⟩)
    (ic : isClsIn K C = true) (sub : mroIn K C (.ref C) = some true) (noS : nsIn K mainGlobals "super" = some none) (noT : nsIn K cStatics "thirdparty.any" = some none) (top : (prog.main.scope.names.lookup ("super" : Str)).isSome = false)
    (sup : ks_superIn K C C "__init__" = some (some (.builtin initId))) (base : subIn K (.ref C) (.type B) = some true) (exc : excInitIn K C bmB newId = true)
    (sa : findIn K (.ref C) "__setattr__" = some (some (.builtin "object.__setattr__"))) (ov : excOver K C bmB = true) (hd : hasDictIn K C = true) (no : ∀ f ∈ fs, findIn K (.ref C) f = some none)
    (exC : subIn K (.ref C) (.type "BaseException") = some true) (tyC : typeIn K (.ref C) = some (.type "type")) (kC : keepIn K (.ref C) = true) : ErC prog K qual fs C :=
  { ex := ⟨fI, B, newId, initId, bmB, { fn := ⟨oc, od, params, body, scope, doc, pm, an, cda, cc, ct, osl, lk, hc, fm, { code := ⟨ccl, cdd, ccs, vs, file, tf, code, hv, hf⟩, cell := ⟨cl, cld, csl, cell⟩, cls := Option.isSome_iff_exists.mp ic, sub := sub, noS := noS, noT := noT, top := top, sup := sup, base := base, exc := exc }⟩, sa := sa, ov := ov, hd := hd, no := no, init := init, ty := ty }, KF, FB, SF, exc⟩
    exC := exC, tyC := tyC, kC := kC }
theorem exm_self {K : Frag} {S : Addr} (h1 : subIn K (.ref S) (.type "BaseException") = some true) (h2 : isClsIn K S = true) (h3 : typeIn K (.ref S) = some (.type "type")) (h4 : subIn K (.ref S) (.ref S) = some true) : exmOne K (.ref S) (.ref S) = some true := by
  have e1 : (subIn K (.ref S) (.type "BaseException") == some true) = true := by rw [h1] <;> rfl
  have e2 : ((clsIn K S).isSome && typeIn K (.ref S) == some (.type "type")) = true := by
    have h2' : (clsIn K S).isSome = true := h2
    rw [h2', h3] <;> rfl
  show (if (subIn K (.ref S) (.type "BaseException") == some true) = true then (if ((clsIn K S).isSome && typeIn K (.ref S) == some (.type "type")) = true then subIn K (.ref S) (.ref S) else none) else none) = some true
  rw [if_pos e1, if_pos e2]
  exact h4
/-- a constant tuple of texts -/
theorem sqt_mk {K : Frag} {a : Addr} {od : Option Addr} {its : Array Value} {n : Nat} {sl : Array (Option Value)} {xs : List V} (h : K.lookup a = some ⟨.type "tuple", od, .seq its n, sl⟩) (l : decide (its.size ≤ 16777216) = true) (r : Vals xs its.toList) : ∀ H, SqT K H a xs :=
  fun H => .inr ⟨_, its, n, h, rfl, rfl, by rw [sizeLine_eq]; exact of_decide_eq_true l, r⟩
theorem own_mk {K : Frag} {C : Addr} (pg : plainGet K C Str.empty = true) (hd : hasDictIn K C = true) (po : plainOver K C = true) (sa : findIn K (.ref C) "__setattr__" = some (some (.builtin "object.__setattr__")))
    (ha : findIn K (.ref C) "__class__" = some (some (.builtin "object.__class__"))) (hn : specialIn K (.builtin "object.__class__") "__get__" = some (some (.builtin "getset_descriptor.__get__"))) (ht : takesIn K (.builtin "object.__class__") = some true) (hm : mroIn K C (.type "object") = some true)
    (k1 : kitOne K (.ref C) (.ref C) = some true) (b1 : kitOne K (.type "NoneType") (.ref C) = some false) (b2 : kitOne K (.type "bool") (.ref C) = some false) (b3 : kitOne K (.type "int") (.ref C) = some false) (b4 : kitOne K (.type "str") (.ref C) = some false)
    (b5 : kitOne K (.type "list") (.ref C) = some false) (b6 : kitOne K (.type "tuple") (.ref C) = some false) (b7 : kitOne K (.type "dict") (.ref C) = some false) : OwnC K C :=
  { cl := ⟨pg, hd, po, sa⟩, ha := ha, hn := hn, ht := ht, hm := hm, self := k1, base := fun t ht => by
      simp only [List.mem_cons, List.not_mem_nil, or_false] at ht
      rcases ht with rfl | rfl | rfl | rfl | rfl | rfl | rfl <;> assumption }
theorem nf_mk {K : Frag} {C : Addr} (b1 : notFirst K C (.type "NoneType") = true) (b2 : notFirst K C (.type "bool") = true) (b3 : notFirst K C (.type "int") = true) (b4 : notFirst K C (.type "str") = true) (b5 : notFirst K C (.type "list") = true) (b6 : notFirst K C (.type "tuple") = true) (b7 : notFirst K C (.type "dict") = true) :
    ∀ t, t ∈ ["NoneType", "bool", "int", "str", "list", "tuple", "dict"] → notFirst K C (.type t) = true := fun t ht => by
  simp only [List.mem_cons, List.not_mem_nil, or_false] at ht
  rcases ht with rfl | rfl | rfl | rfl | rfl | rfl | rfl <;> assumption
theorem dflt_mk {K : Frag} {T : Addr} {tc : Value} {td : Option Addr} {its : Array Value} {n : Nat} {tsl : Array (Option Value)} {dvs : List V} (h : K.lookup T = some ⟨tc, td, .seq its n, tsl⟩) (r : Vals dvs its.toList) (hn : dvs ≠ []) : DflV K (.ref T) dvs :=
  .inr ⟨hn, T, _, its.toList, n, rfl, h, by simp, r⟩
theorem cx_none {P : Program} {w : World} {H : Hp} {s s' : Shared} {e : Value} (z : L2.CX P w [] H s (fun _ _ _ => False) e s') : False := by
  obtain ⟨_, _, _, _, _, _, _, _, _, _, _, _, h⟩ := z
  exact h
end Wm
namespace Wm
open PySem L2 PySem.Spec
open PyProof.Rows hiding St
/-! ## one or the other reading -/
def rOr (r1 r2 : R2) : R2 := fun x y H Q => r1 x y H Q ∨ r2 x y H Q
theorem op_or {X : Cx} {op : Value → Value → Sem Value} {r1 r2 : R2} (h1 : OpR X op r1) (h2 : OpR X op r2) : OpR X op (rOr r1 r2) := by
  intro pins s σ H x y v u Q I rx ry h
  rcases h with h | h
  · exact h1 pins s σ H x y v u Q I rx ry h
  · exact h2 pins s σ H x y v u Q I rx ry h
def iOr (w1 w2 : TI) : TI := fun σ H R => w1 σ H R ∨ w2 σ H R
section
variable {X : Cx} {D : Ends} {σ : St} {H : Hp} {Q : VK} {K : PySem.W.Frag}
/-! ## list comprehensions whose parts leave the heap -/
def lcEnd (g : TG) (tt : TT) (te : TE) (vs : List Nat) (σ : St) (Q : VK) : It → Hp → Prop := fun J H1 => ∀ D, H1 D = none → ∃ W : Nat → Nat → Hp → Prop, (∃ m, W 0 m (upd H1 D (.lst []))) ∧ ∀ i m H, W i m H →
  (J.stop i H ∧ Q (.ref D) H) ∨ (J.go i H ∧ ∃ Nx : Hp → Prop, (∀ H', Nx H' → ∃ m', m' < m ∧ W (i + 1) m' H') ∧ ∀ x H', J.yld i H x H' → g x (wipe σ vs) H' fun σ2 H2 => wipe σ2 vs = wipe σ vs ∧ tt σ2 H2 fun b H3 =>
    if b = true then te σ2 H3 fun y H4 => ∃ acc, H4 D = some (.lst acc) ∧ acc.length < sizeLine ∧ Nx (upd H4 D (.lst (acc ++ [y]))) else Nx H3)
theorem r_lc {wi : TI} {g : TG} {tt : TT} {te : TE} {vs : List Nat} (h : wi σ H (lcEnd g tt te vs σ Q)) : tLc wi g tt te vs σ H Q := h
theorem same_seqT {H H' : Hp} {a : Addr} {xs : List V} (e : Same H H') (h : SqT K H a xs) : SqT K H' a xs := by
  rcases h with (h | ⟨o, h⟩) | h
  · exact .inl (.inl (e _ _ h))
  · exact .inl (.inr ⟨o, e _ _ h⟩)
  · exact .inr h
theorem wipe_set1 {i : Nat} {x : Option V} : wipe ((wipe σ [i]).set i x) [i] = wipe σ [i] := by
  show ((σ.set i none).set i x).set i none = σ.set i none
  rw [List.set_set, List.set_set]
theorem take_more {α : Type} : ∀ {l : List α} {i : Nat} {x : α}, l[i]? = some x → l.take (i + 1) = l.take i ++ [x]
  | [], i, x, h => by simp at h
  | a :: l, 0, x, h => by
    cases Option.some.inj h
    rfl
  | a :: l, i + 1, x, h => by
    have ih := take_more (l := l) (i := i) (x := x) h
    show a :: l.take (i + 1) = a :: l.take i ++ [x]
    rw [ih]
    rfl
theorem len_filt {α : Type} {l : List α} {p : α → Bool} {i : Nat} {x : α} (h : l[i]? = some x) : ((l.take i).filter p).length < l.length := by
  have h1 := List.length_filter_le p (l.take i)
  have h2 : i < l.length := by
    rcases Nat.lt_or_ge i l.length with z | z
    · exact z
    · rw [List.getElem?_eq_none z] at h
      cases h
  rw [List.length_take] at h1
  omega
/-- what a turn of such a block gives -/
def LcTurn (tt : TT) (te : TE) (i : Nat) (σ : St) (H1 : Hp) (p : V → Bool) (f : V → V) (x : V) : Prop :=
  (∀ (H' : Hp) (R : Bool → Hp → Prop), Same H1 H' → R (p x) H' → tt ((wipe σ [i]).set i (some x)) H' R) ∧ ∀ (H' : Hp) (R : VK), p x = true → Same H1 H' → R (f x) H' → te ((wipe σ [i]).set i (some x)) H' R
theorem lc_turn {tt : TT} {te : TE} {i : Nat} {H1 H' : Hp} {p : V → Bool} {f : V → V} {xs : List V} {x : V} {j : Nat} {D : Addr} (hz : xs.length ≤ sizeLine) (hD : H1 D = none) (hj : xs[j]? = some x) (t : LcTurn tt te i σ H1 p f x) (s : Same H1 H') (e : H' D = some (.lst (((xs.take j).filter p).map f))) :
    gName i x (wipe σ [i]) H' fun σ2 H2 => wipe σ2 [i] = wipe σ [i] ∧ tt σ2 H2 fun b H3 => if b = true then te σ2 H3 fun y H4 => ∃ acc, H4 D = some (.lst acc) ∧ acc.length < sizeLine ∧ (Same H1 (upd H4 D (.lst (acc ++ [y]))) ∧ upd H4 D (.lst (acc ++ [y])) D = some (.lst (((xs.take (j + 1)).filter p).map f))) else Same H1 H3 ∧ H3 D = some (.lst (((xs.take (j + 1)).filter p).map f)) := by
  refine ⟨wipe_set1, t.1 H' _ s ?_⟩
  cases hp : p x with
  | true =>
    refine iteT (t.2 H' _ hp s ⟨_, e, ?_, same_put s hD, ?_⟩)
    · rw [List.length_map]
      exact Nat.lt_of_lt_of_le (len_filt hj) hz
    · rw [upd_same, take_more hj, List.filter_append, List.map_append]
      simp [hp]
  | false =>
    refine iteF ⟨s, ?_⟩
    rw [e, take_more hj, List.filter_append, List.map_append]
    simp [hp]
theorem r_lcL {tt : TT} {te : TE} {i : Nat} {a : Addr} {xs : List V} (p : V → Bool) (f : V → V) (hS : SqL K H a xs) (hz : xs.length ≤ sizeLine) (ht : ∀ (j : Nat) (x : V), xs[j]? = some x → LcTurn tt te i σ H p f x)
    (k : ∀ q H', H q = none → Same H H' → H' q = some (.lst ((xs.filter p).map f)) → Q (.ref q) H') : lcEnd (gName i) tt te [i] σ Q (Itl K a) H := fun D hD =>
  lc_list (K := K) (a := a) (xs := xs) (fun j H' => Same H H' ∧ H' D = some (.lst (((xs.take j).filter p).map f))) ⟨same_new hD, upd_same⟩ (fun j H' _ h => h.1.seq hS) (fun j x H' hj h => lc_turn hz hD hj (ht j x hj) h.1 h.2)
    fun H' h => k D H' hD h.1 (by rw [h.2, List.take_length])
theorem r_lcT {tt : TT} {te : TE} {i : Nat} {a : Addr} {xs : List V} (p : V → Bool) (f : V → V) (hS : SqT K H a xs) (hz : xs.length ≤ sizeLine) (ht : ∀ (j : Nat) (x : V), xs[j]? = some x → LcTurn tt te i σ H p f x)
    (k : ∀ q H', H q = none → Same H H' → H' q = some (.lst ((xs.filter p).map f)) → Q (.ref q) H') : lcEnd (gName i) tt te [i] σ Q (Itt K a) H := fun D hD =>
  lc_tup (K := K) (a := a) (xs := xs) (fun j H' => Same H H' ∧ H' D = some (.lst (((xs.take j).filter p).map f))) ⟨same_new hD, upd_same⟩ (fun j H' _ h => same_seqT h.1 hS) (fun j x H' hj h => lc_turn hz hD hj (ht j x hj) h.1 h.2)
    fun H' h => k D H' hD h.1 (by rw [h.2, List.take_length])
def vInts (lo : Int) (n : Nat) : List V := (List.range n).map fun (k : Nat) => V.int (lo + (k : Int))
theorem ints_at {lo : Int} {n j : Nat} (h : j < n) : (vInts lo n)[j]? = some (.int (lo + (j : Int))) := by
  unfold vInts
  rw [List.getElem?_map, List.getElem?_range h]
  rfl
theorem ints_len {lo : Int} {n : Nat} : (vInts lo n).length = n := by simp [vInts]
theorem r_lcR {tt : TT} {te : TE} {i : Nat} {lo : Int} {n : Nat} (p : V → Bool) (f : V → V) (hz : n ≤ sizeLine) (ht : ∀ j : Nat, j < n → LcTurn tt te i σ H p f (.int (lo + (j : Int))))
    (k : ∀ q H', H q = none → Same H H' → H' q = some (.lst (((vInts lo n).filter p).map f)) → Q (.ref q) H') : lcEnd (gName i) tt te [i] σ Q (Itr lo n) H := fun D hD =>
  lc_range (lo := lo) (n := n) (fun j H' => Same H H' ∧ H' D = some (.lst ((((vInts lo n).take j).filter p).map f))) ⟨same_new hD, upd_same⟩ (fun j H' hj h => lc_turn (xs := vInts lo n) (by rw [ints_len]; exact hz) hD (ints_at hj) (ht j hj) h.1 h.2)
    fun H' h => k D H' hD h.1 (by
      have e : (vInts lo n).take n = vInts lo n := List.take_of_length_le (by rw [ints_len]; exact Nat.le_refl n)
      rw [h.2, e])
theorem pi_or {tg iter : Expr} {w1 w2 : TI} (h1 : PI X tg iter w1) (h2 : PI X tg iter w2) : PI X tg iter (iOr w1 w2) := ⟨fun pins s σ H R I h => h.elim (h1.run pins s σ H R I) (h2.run pins s σ H R I)⟩
def rAddS : R2 := fun x y H Q => ∃ i j, x = .str i ∧ y = .str j ∧ i.length + j.length ≤ sizeLine ∧ Q (.str (i ++ j)) H
theorem op_addS : OpR X (binaryOp .Add) rAddS := op_add_str
theorem r_addS {a b : Str} (hz : a.length + b.length ≤ sizeLine) (q : Q (.str (a ++ b)) H) : rAddS (.str a) (.str b) H Q := ⟨a, b, rfl, rfl, hz, q⟩
theorem r_extend {p q : Addr} {xs ys : List V} (h : H p = some (.lst xs)) (h' : H q = some (.lst ys)) (hz : xs.length + ys.length ≤ sizeLine) (k : Q .non (upd H p (.lst (xs ++ ys)))) : rExtend (.ref p) [.ref q] H Q := ⟨p, q, xs, ys, rfl, rfl, h, h', hz, k⟩
theorem r_any {p : Addr} {xs : List V} (bs : List Bool) (h : H p = some (.lst xs)) (e : xs = bs.map V.bl) (q : Q (.bl (bs.any id)) H) : rAny K [.ref p] H Q := ⟨p, bs, rfl, e ▸ SqL.of h, q⟩
/-! ## method calls whose wish of an error hangs on the slots -/
theorem run_fnRT {CX : CXT} {k : Nat} {f : Addr} {sp : Sp} {E : XK} {us : List Value} {vs : List V} {pins : List (Addr × Obj)} {s : Shared} (F : FnR X.prog X.w X.K X.mg X.base CX k f sp) (hr : Room k X.A) (hx : PassesAt CX X σ E) (I : Inv X pins σ H s) (r : Vals vs us) (h : sp vs H Q E) :
    codeAny (model X.prog X.w) X.A (.call (.ref f) ⟨us, []⟩) (fun r s' => match r with | .ok (.ret v) => EP X pins σ Q v s' | .ok _ => False | .error e => X.xe e s') s := by
  refine codeAny_mono (F X.A X.stack s H us vs Q E hr I.env0 r h) fun r s' hq => ?_
  cases r with
  | error e => exact hx pins H s e s' I hq
  | ok fl =>
    cases fl with
    | ret u => exact I.after hq
    | next => exact False.elim hq
    | brk => exact False.elim hq
    | cont => exact False.elim hq
/-- o.m(e, ..), in a try too -/
def tMethT (C : Addr) (m : Str) (sp : Sp) (E : St → XK) (ta : TE) (t : TA) : TE := fun σ H Q => ta σ H fun x H1 => ∃ a dx fs, x = .ref a ∧ H1 a = some (.ins C dx fs) ∧ fs.lookup m = none ∧ t σ H1 fun vs H2 => sp (x :: vs) H2 Q (E σ)
theorem pe_methT {CX : CXT} {k : Nat} {C f : Addr} {m : Str} {sp : Sp} {E : St → XK} {o e : Expr} {es : List Expr} {ta : TE} {t : TA} {apos pos : Pos} {pl : Sem Bool} (he : PE X o ta) (c : Cls X.K C) (hm : Meth X.K C m f)
    (F : FnR X.prog X.w X.K X.mg X.base CX k f sp) (hr : Room k X.A) (hx : ∀ σ, PassesAt CX X σ (E σ)) (ha : PA X (e :: es) t)
    (hst : starEach (e :: es) X.env = (false, eval e X.env) :: starEach es X.env := by rfl) (hpl : (backTo pos (starEach es X.env)).any (·.1) = false := by rfl)
    (ht : eval (.Call (.Attribute o m apos) (e :: es) [] pos) X.env = (do
      let ov ← eval o X.env
      standAt apos.atName
      let (f, first) ← holding [ov] (getMethod ov m pl)
      callWith pos f first (backTo pos (starEach (e :: es) X.env)) (backToKw pos (keywordEach [] X.env))) := by rfl) :
    PE X (.Call (.Attribute o m apos) (e :: es) [] pos) (tMethT C m sp E ta t) := by
  refine ⟨fun pins s σ H Q I h => ?_⟩
  refine PySem.W.methodCall_KW (pl := pl) (thn (he.run pins s σ H _ I h) fun u s1 ⟨x, H1, I1, rx, a, dx, fs, ex, ea, l, q⟩ => ?_) ht
  subst ex
  obtain rfl : u = Value.ref a := rx
  refine getmeth_ok I1 ea c hm l ?_
  refine PySem.W.callWith_K (first := [.ref a]) (h₀ := X.base) I.ok.mod.kin hm.kp (thn (ha.run pos pins s1 σ H1 _ I1 q) fun us s2 ⟨vs, H2, I2, r, q2⟩ => ⟨I2.kIn, ?_⟩) hst hpl
  exact wpAny_call (run_fnRT (us := .ref a :: us) (vs := .ref a :: vs) F hr (hx σ) I2 (.cons rfl r) q2)
theorem pe_methT0 {CX : CXT} {k : Nat} {C f : Addr} {m : Str} {sp : Sp} {E : St → XK} {o : Expr} {ta : TE} {apos pos : Pos} {pl : Sem Bool} (he : PE X o ta) (c : Cls X.K C) (hm : Meth X.K C m f)
    (F : FnR X.prog X.w X.K X.mg X.base CX k f sp) (hr : Room k X.A) (hx : ∀ σ, PassesAt CX X σ (E σ))
    (ht : eval (.Call (.Attribute o m apos) [] [] pos) X.env = (do
      let ov ← eval o X.env
      standAt apos.atName
      let (f, first) ← holding [ov] (getMethod ov m pl)
      callWith pos f first (backTo pos (starEach [] X.env)) (backToKw pos (keywordEach [] X.env))) := by rfl) :
    PE X (.Call (.Attribute o m apos) [] [] pos) (tMethT C m sp E ta tNil) := by
  refine ⟨fun pins s σ H Q I h => ?_⟩
  refine PySem.W.methodCall_KW (pl := pl) (thn (he.run pins s σ H _ I h) fun u s1 ⟨x, H1, I1, rx, a, dx, fs, ex, ea, l, q⟩ => ?_) ht
  subst ex
  obtain rfl : u = Value.ref a := rx
  refine getmeth_ok I1 ea c hm l ?_
  exact PySem.W.callWith_K0 (first := [.ref a]) I1.kIn hm.kp (wpAny_call (run_fnRT (us := [.ref a]) (vs := [.ref a]) F hr (hx σ) I1 (.cons rfl .nil) q))
def methE (C : Addr) (m : Str) (R : V → Hp → Prop) : V → Hp → Prop := fun x H1 => ∃ a dx fs, x = .ref a ∧ H1 a = some (.ins C dx fs) ∧ fs.lookup m = none ∧ R x H1
theorem r_meth {C : Addr} {m : Str} {sp : Sp} {dvs : List V} {E : XK} {ta : TE} {t : TA} (h : ta σ H (methE C m fun x H1 => t σ H1 fun vs H2 => sp (x :: (vs ++ dvs)) H2 Q E)) : tMeth C m sp dvs E ta t σ H Q := h
theorem r_methT {C : Addr} {m : Str} {sp : Sp} {E : St → XK} {ta : TE} {t : TA} (h : ta σ H (methE C m fun x H1 => t σ H1 fun vs H2 => sp (x :: vs) H2 Q (E σ))) : tMethT C m sp E ta t σ H Q := h
theorem r_methK {p C dx : Addr} {m : Str} {fs : List (Str × V)} {R : V → Hp → Prop} (h : H p = some (.ins C dx fs)) (e : fs.lookup m = none) (q : R (.ref p) H) : methE C m R (.ref p) H := ⟨p, dx, fs, rfl, h, e, q⟩
end
end Wm
namespace Wm
open PySem L2
def MARKSl : List Str := ["none", "way", "lasting"]
def ACTSl : List Str := ["ring", "skip", "refuse"]
def BYl : List Str := ["same", "equal"]
def KEEPSl : List Str := ["none", "ahead", "behind"]
def FLAGSl : List Str := ["here", "left", "twin here", "twin left"]
/-! ### plain functions -/
def plain5 (m a b k e : Str) : List Str := [m, if m = "none" then "ring" else a, if m = "none" then "same" else b, k, if k = "none" then "same" else e]
def okv (v : V) (cs : List Str) : Bool := match v with
  | .str x => decide (x ∈ cs)
  | _ => false
def badPart (v0 v1 v2 v3 v4 : V) : Option Str :=
  if okv v0 MARKSl = false then some "mark" else if okv v1 ACTSl = false then some "act" else if okv v2 BYl = false then some "by"
  else if okv v3 KEEPSl = false then some "keep" else if okv v4 BYl = false then some "keep_by" else none
def strOf : V → Str
  | .str x => x
  | _ => ""
def madeL (v0 v1 v2 v3 v4 : V) : List Str := match badPart v0 v1 v2 v3 v4 with
  | some p => ["bad", p]
  | none => plain5 (strOf v0) (strOf v1) (strOf v2) (strOf v3) (strOf v4)
/-- a value whose type is known -/
def AnyV (H : Hp) : V → Prop
  | .non => True
  | .bl _ => True
  | .int _ => True
  | .str _ => True
  | .ref a => (∃ xs, H a = some (.lst xs)) ∨ (∃ xs, H a = some (.tup xs)) ∨ ∃ kvs, H a = some (.dK kvs)
  | _ => False
theorem AnyV.ty {K : PySem.W.Frag} {H : Hp} {v : V} (h : AnyV H v) : ∃ t, TyX K H v (.type t) ∧ t ∈ ["NoneType", "bool", "int", "str", "list", "tuple", "dict"] ∧ (t = "str" ↔ ∃ x, v = .str x) := by
  cases v with
  | non => exact ⟨_, .base .non, by simp, by simp⟩
  | bl b => exact ⟨_, .base (.bl b), by simp, by simp⟩
  | int i => exact ⟨_, .base (.int i), by simp, by simp⟩
  | str x => exact ⟨_, .base (.str x), by simp, by simp⟩
  | ref a =>
    rcases h with ⟨xs, h⟩ | ⟨xs, h⟩ | ⟨kvs, h⟩
    · exact ⟨_, .base (.lst h), by simp, by simp⟩
    · exact ⟨_, .base (.tup h), by simp, by simp⟩
    · exact ⟨_, .base (.dK h), by simp, by simp⟩
  | _ => exact h.elim
theorem AnyV.isStr {K : PySem.W.Frag} {H : Hp} {v : V} (h : AnyV H v) : ∃ t b, TyX K H v (.type t) ∧ kitB t "str" = some b ∧ (b = true ↔ ∃ x, v = .str x) := by
  obtain ⟨t, h1, h2, h3⟩ := h.ty (K := K)
  simp only [List.mem_cons, List.not_mem_nil, or_false] at h2
  rcases h2 with rfl | rfl | rfl | rfl | rfl | rfl | rfl
  all_goals first
    | exact ⟨_, true, h1, by decide +kernel, by simpa using h3⟩
    | exact ⟨_, false, h1, by decide +kernel, by simpa using h3⟩
/-! ### promises -/
def spBit : Sp := fun vs H Q _ => ∃ (p c : Addr) (b : Int), vs = [.ref p, .int b] ∧ PenAt H p c ∧ 0 < b ∧ b < 2 ^ 100 ∧ ∀ r H', PenStep p c H H' → Q (.bl r) H'
theorem r_bit {H : Hp} {Q : VK} {E : XK} {p c : Addr} {b : Int} (h : PenAt H p c) (hb : 0 < b) (hb2 : b < 2 ^ 100) (k : ∀ r H', PenStep p c H H' → Q (.bl r) H') : spBit ([.ref p, .int b] ++ []) H Q E := ⟨p, c, b, rfl, h, hb, hb2, k⟩
/-- a drawn odd value: it stands apart from the pen -/
def OddV (p : Addr) (H : Hp) (v : V) : Prop := AnyV H v ∧ v ≠ .ref p
theorem oddT {p c q : Addr} {H : Hp} {xs : List V} (h : PenAt H p c) (e : H q = some (.tup xs)) : OddV p H (.ref q) := ⟨.inr (.inl ⟨xs, e⟩), fun z => h.ne e rfl (V.ref.inj z)⟩
theorem oddL {p c q : Addr} {H : Hp} {xs : List V} (h : PenAt H p c) (e : H q = some (.lst xs)) : OddV p H (.ref q) := ⟨.inl ⟨xs, e⟩, fun z => h.ne e rfl (V.ref.inj z)⟩
theorem oddD {p q : Addr} {H : Hp} {kvs : List (Key × V)} (n : q ≠ p) (e : H q = some (.dK kvs)) : OddV p H (.ref q) := ⟨.inr (.inr ⟨kvs, e⟩), fun z => n (V.ref.inj z)⟩
def spOdd : Sp := fun vs H Q _ => ∃ (p c : Addr), vs = [.ref p] ∧ PenAt H p c ∧ ∀ v H', PenStep p c H H' → OddV p H' v → Q v H'
def spFive : Sp := fun vs H Q _ => ∃ (p c : Addr), vs = [.ref p] ∧ PenAt H p c ∧ ∀ q H' m a b k e, m ∈ MARKSl → a ∈ ACTSl → b ∈ BYl → k ∈ KEEPSl → e ∈ BYl → PenStep p c H H' → H q = none → H' q = some (.lst [.str m, .str a, .str b, .str k, .str e]) → Q (.ref q) H'
def spPlain : Sp := fun vs H Q _ => ∃ (q : Addr) (m a b k e : Str), vs = [.ref q] ∧ H q = some (.lst [.str m, .str a, .str b, .str k, .str e]) ∧ ∀ r H', Same H H' → H r = none → H' r = some (.lst ((plain5 m a b k e).map V.str)) → Q (.ref r) H'
def gfs (l : List Str) : List (Str × V) := [("mark", .str (l.getD 0 "")), ("act", .str (l.getD 1 "")), ("by", .str (l.getD 2 "")), ("keep", .str (l.getD 3 "")), ("keep_by", .str (l.getD 4 ""))]
theorem AnyV.same {v : V} {H H' : Hp} (h : AnyV H v) (s : Same H H') : AnyV H' v := by
  cases v with
  | ref a =>
    rcases h with ⟨xs, h⟩ | ⟨xs, h⟩ | ⟨xs, h⟩
    · exact .inl ⟨xs, s _ _ h⟩
    · exact .inr (.inl ⟨xs, s _ _ h⟩)
    · exact .inr (.inr ⟨xs, s _ _ h⟩)
  | _ => exact h
def Any5 (H : Hp) (v0 v1 v2 v3 v4 : V) : Prop := AnyV H v0 ∧ AnyV H v1 ∧ AnyV H v2 ∧ AnyV H v3 ∧ AnyV H v4
theorem Any5.same {v0 v1 v2 v3 v4 : V} {H H' : Hp} (h : Any5 H v0 v1 v2 v3 v4) (s : Same H H') : Any5 H' v0 v1 v2 v3 v4 := ⟨h.1.same s, h.2.1.same s, h.2.2.1.same s, h.2.2.2.1.same s, h.2.2.2.2.same s⟩
def spInitG (CG CB : Addr) : Sp := fun vs H Q E => ∃ (a dx : Addr) (v0 v1 v2 v3 v4 : V), vs = [.ref a, v0, v1, v2, v3, v4] ∧ H a = some (.ins CG dx []) ∧ Any5 H v0 v1 v2 v3 v4 ∧
  (∀ part, badPart v0 v1 v2 v3 v4 = some part → ∀ d H', Same H H' → H d = none → H' d = some (.xd [("part", .str part)]) → E (.ref CB) (some d) H') ∧
  (∀ m t b k e, v0 = .str m → v1 = .str t → v2 = .str b → v3 = .str k → v4 = .str e → m ∈ MARKSl → t ∈ ACTSl → b ∈ BYl → k ∈ KEEPSl → e ∈ BYl → ∀ H', (∀ b o, b ≠ a → H b = some o → H' b = some o) → H' a = some (.ins CG dx (gfs (plain5 m t b k e))) → Q .non H')
theorem okv_str {v : V} {l : List Str} (h : okv v l = true) : ∃ x, v = .str x ∧ x ∈ l := by
  cases v with
  | str x => exact ⟨x, rfl, by simpa [okv] using h⟩
  | _ => cases h
def spEqG (CG : Addr) : Sp := fun vs H Q _ => ∃ (a dx : Addr) (m t b k e : Str) (v : V), vs = [.ref a, v] ∧ H a = some (.ins CG dx (gfs [m, t, b, k, e])) ∧
  ((∃ (a' dx' : Addr) (m' t' b' k' e' : Str), v = .ref a' ∧ H a' = some (.ins CG dx' (gfs [m', t', b', k', e'])) ∧ Q (.bl (decide ([m, t, b, k, e] = [m', t', b', k', e']))) H) ∨ (AnyV H v ∧ Q (.bl false) H))
def spMade : Sp := fun vs H Q _ => ∃ (q : Addr) (v0 v1 v2 v3 v4 : V), vs = [.ref q] ∧ H q = some (.lst [v0, v1, v2, v3, v4]) ∧ Any5 H v0 v1 v2 v3 v4 ∧ ∀ r H', Same H H' → H r = none → H' r = some (.lst ((madeL v0 v1 v2 v3 v4).map V.str)) → Q (.ref r) H'
def spFewG (CG : Addr) : Sp := fun vs H Q _ => ∃ (w : Int) (q : Addr) (m t b k e : Str), vs = [.int w, .ref q] ∧ H q = some (.lst [.str m, .str t, .str b, .str k, .str e]) ∧ (m ∈ MARKSl ∧ t ∈ ACTSl ∧ b ∈ BYl ∧ k ∈ KEEPSl ∧ e ∈ BYl) ∧
  ∀ r g d dx m' t' b' k' e' H', Same H H' → H r = none → H' r = some (.lst [.ref g, .ref d]) → H' g = some (.ins CG dx (gfs [m', t', b', k', e'])) → H' d = some (.lst [.str m', .str t', .str b', .str k', .str e']) → Q (.ref r) H'
theorem bad_none {v0 v1 v2 v3 v4 : V} (h0 : okv v0 MARKSl = true) (h1 : okv v1 ACTSl = true) (h2 : okv v2 BYl = true) (h3 : okv v3 KEEPSl = true) (h4 : okv v4 BYl = true) : badPart v0 v1 v2 v3 v4 = none := by
  unfold badPart
  rw [if_neg (by simp [h0]), if_neg (by simp [h1]), if_neg (by simp [h2]), if_neg (by simp [h3]), if_neg (by simp [h4])]
theorem okv_mem {x : Str} {l : List Str} (h : x ∈ l) : okv (.str x) l = true := by simpa [okv] using h
def spChoice (K : PySem.W.Frag) : Sp := fun vs H Q _ => ∃ (v : V) (a : Addr) (ss : List Str), vs = [v, .ref a] ∧ SqT K H a (ss.map V.str) ∧ AnyV H v ∧ Q (.bl (okv v ss)) H
def Ok5 (m t b k e : Str) : Prop := m ∈ MARKSl ∧ t ∈ ACTSl ∧ b ∈ BYl ∧ k ∈ KEEPSl ∧ e ∈ BYl
theorem made_ok {m t b k e : Str} (h : Ok5 m t b k e) : madeL (.str m) (.str t) (.str b) (.str k) (.str e) = plain5 m t b k e := by
  unfold madeL
  rw [bad_none (okv_mem h.1) (okv_mem h.2.1) (okv_mem h.2.2.1) (okv_mem h.2.2.2.1) (okv_mem h.2.2.2.2)]
  rfl
theorem AnyV.step {p c : Addr} {H H' : Hp} {v : V} (h : AnyV H v) (n : v ≠ .ref p) (s : PenStep p c H H') : AnyV H' v := by
  cases v with
  | ref a =>
    have n' : a ≠ p := fun z => n (by rw [z])
    rcases h with ⟨xs, h⟩ | ⟨xs, h⟩ | ⟨xs, h⟩
    · exact .inl ⟨xs, s.keep _ _ n' h⟩
    · exact .inr (.inl ⟨xs, s.keep _ _ n' h⟩)
    · exact .inr (.inr ⟨xs, s.keep _ _ n' h⟩)
  | _ => exact h
theorem OddV.step {p c : Addr} {H H' : Hp} {v : V} (h : OddV p H v) (s : PenStep p c H H') : OddV p H' v := ⟨h.1.step h.2 s, h.2⟩
theorem OddV.same {p : Addr} {H H' : Hp} {v : V} (h : OddV p H v) (s : Same H H') : OddV p H' v := ⟨h.1.same s, h.2⟩
theorem OddV.put {p q : Addr} {H : Hp} {v : V} {xs : List V} (h : OddV p H v) : OddV p (upd H q (.lst xs)) v := by
  refine ⟨?_, h.2⟩
  obtain ⟨h, _⟩ := h
  cases v with
  | ref a =>
    by_cases e : a = q
    · subst e
      exact .inl ⟨xs, upd_same⟩
    · rcases h with ⟨ys, h⟩ | ⟨ys, h⟩ | ⟨ys, h⟩
      · exact .inl ⟨ys, by rw [upd_ne e]; exact h⟩
      · exact .inr (.inl ⟨ys, by rw [upd_ne e]; exact h⟩)
      · exact .inr (.inr ⟨ys, by rw [upd_ne e]; exact h⟩)
  | _ => exact h
theorem oddS {p : Addr} {H : Hp} {x : Str} : OddV p H (.str x) := ⟨trivial, fun z => by cases z⟩
theorem sp_initG {CG CB : Addr} {H : Hp} {Q : VK} {E : XK} {a dx : Addr} {m t b k e : Str} (h : H a = some (.ins CG dx [])) (m0 : m ∈ MARKSl) (m1 : t ∈ ACTSl) (m2 : b ∈ BYl) (m3 : k ∈ KEEPSl) (m4 : e ∈ BYl)
    (q : ∀ H', (∀ b o, b ≠ a → H b = some o → H' b = some o) → H' a = some (.ins CG dx (gfs (plain5 m t b k e))) → Q .non H') : spInitG CG CB [.ref a, .str m, .str t, .str b, .str k, .str e] H Q E := by
  refine ⟨a, dx, _, _, _, _, _, rfl, h, ⟨trivial, trivial, trivial, trivial, trivial⟩, fun part hb => ?_, fun m' t' b' k' e' z0 z1 z2 z3 z4 _ _ _ _ _ => ?_⟩
  · rw [bad_none (okv_mem m0) (okv_mem m1) (okv_mem m2) (okv_mem m3) (okv_mem m4)] at hb
    cases hb
  · cases z0
    cases z1
    cases z2
    cases z3
    cases z4
    exact q
def spLaw (K : PySem.W.Frag) : Sp := fun vs H Q _ => ∃ (a : Addr) (ns : List Int), vs = [.ref a] ∧ SqL K H a (ns.map V.int) ∧ ∀ H', Q (.bl true) H'
theorem at_n {xs : List V} {i : Nat} {v : V} (h : xs[i]? = some v) : atI xs (0 + (i : Int)) = some v := by
  rw [Int.zero_add]
  exact atI_nat h
theorem str_in {ss : List Str} {j : Nat} {x : V} (h : (ss.map V.str)[j]? = some x) : ∃ y, x = .str y ∧ y ∈ ss := by
  rw [List.getElem?_map] at h
  cases e : ss[j]? with
  | none =>
    rw [e] at h
    cases h
  | some u =>
    rw [e] at h
    exact ⟨u, (Option.some.inj h).symm, List.mem_of_getElem? e⟩
theorem str_at {ss : List Str} {j : Nat} {x : V} (h : (ss.map V.str)[j]? = some x) : ∃ y, x = .str y := by
  obtain ⟨y, h, _⟩ := str_in h
  exact ⟨y, h⟩
theorem filt_true {α : Type} {l : List α} : l.filter (fun _ => true) = l := List.filter_eq_self.mpr fun _ _ => rfl
def SqA (K : PySem.W.Frag) (H : Hp) (t : Addr) (xs : List V) : Prop := SqL K H t xs ∨ SqT K H t xs
theorem SqA.same {K : PySem.W.Frag} {H H' : Hp} {t : Addr} {xs : List V} (h : SqA K H t xs) (s : Same H H') : SqA K H' t xs := h.imp (fun h => s.seq h) (fun h => same_seqT s h)
theorem r_forA {K : PySem.W.Frag} {p : Addr} {xs : List V} {g : TG} {tb : TS} {D : Ends} {σ : St} {H : Hp} {sl : Nat} (hv : σ[sl]? = some (some (.ref p))) (hS : SqA K H p xs) (Pv : Nat → St → Hp → Prop) (h0 : Pv 0 σ H) (hsm : ∀ i σ' H', Pv i σ' H' → Same H H')
    (hs : ∀ i x σ H, xs[i]? = some x → Pv i σ H → g x σ H fun σ2 H2 => tb { D with nx := Pv (i + 1), ct := Pv (i + 1), bk := D.nx } σ2 H2) (hd : ∀ σ H, Pv xs.length σ H → D.nx σ H) :
    iOr (iList K (tVar sl)) (iTup K (tVar sl)) σ H (fun J H1 => ∃ W : Nat → Nat → St → Hp → Prop, (∃ m, W 0 m σ H1) ∧ ∀ i m σ H, W i m σ H →
      (J.stop i H ∧ D.nx σ H) ∨ (J.go i H ∧ ∃ N : St → Hp → Prop, (∀ σ' H', N σ' H' → ∃ m', m' < m ∧ W (i + 1) m' σ' H') ∧ ∀ x H', J.yld i H x H' → g x σ H' fun σ2 H2 => tb { D with nx := N, ct := N, bk := D.nx } σ2 H2)) := by
  rcases hS with hS | hS
  · exact .inl ⟨_, hv, p, rfl, ⟨xs, hS⟩, for_list (K := K) (a := p) (xs := xs) Pv h0 (fun i σ' H' _ z => (hsm i σ' H' z).seq hS) hs hd⟩
  · exact .inr ⟨_, hv, p, rfl, ⟨xs, hS⟩, for_tup (K := K) (a := p) (xs := xs) Pv h0 (fun i σ' H' _ z => same_seqT (hsm i σ' H' z) hS) hs hd⟩
theorem r_orV2 {ta tb : TE} {σ : St} {H : Hp} {Q : VK} {c d : Bool} (ha : ∀ R : VK, R (.bl c) H → ta σ H R) (hb : ∀ R : VK, R (.bl d) H → tb σ H R) (q : Q (.bl (c || d)) H) : tOrV ta tb σ H Q :=
  ha _ ⟨c, rfl, by
    cases c
    · exact iteF (hb _ q)
    · exact iteT q⟩
theorem r_andV2 {ta tb : TE} {σ : St} {H : Hp} {Q : VK} {c d : Bool} (ha : ∀ R : VK, R (.bl c) H → ta σ H R) (hb : ∀ R : VK, R (.bl d) H → tb σ H R) (q : Q (.bl (c && d)) H) : tAndV ta tb σ H Q :=
  ha _ ⟨c, rfl, by
    cases c
    · exact iteF q
    · exact iteT (hb _ q)⟩
theorem r_and2 {p q : TT} {σ : St} {H : Hp} {R : Bool → Hp → Prop} {c d : Bool} (ha : ∀ R : Bool → Hp → Prop, R c H → p σ H R) (hb : ∀ R : Bool → Hp → Prop, R d H → q σ H R) (k : R (c && d) H) : tAnd p q σ H R := ha _ (by
    cases c
    · exact iteF k
    · exact iteT (hb _ k))
theorem r_or2 {p q : TT} {σ : St} {H : Hp} {R : Bool → Hp → Prop} {c d : Bool} (ha : ∀ R : Bool → Hp → Prop, R c H → p σ H R) (hb : ∀ R : Bool → Hp → Prop, R d H → q σ H R) (k : R (c || d) H) : tOr p q σ H R := ha _ (by
    cases c
    · exact iteF (hb _ k)
    · exact iteT k)
theorem all_strs : ∀ {fl : List V}, (∀ v, v ∈ fl → ∃ x, v = .str x) → ∃ ss : List Str, fl = ss.map V.str
  | [], _ => ⟨[], rfl⟩
  | v :: r, h => by
    obtain ⟨x, rfl⟩ := h v (by simp)
    obtain ⟨ss, rfl⟩ := all_strs (fl := r) fun v hv => h v (by simp [hv])
    exact ⟨x :: ss, rfl⟩
def firstBad (fl : List V) : Option V := fl.find? fun v => !okv v FLAGSl
theorem first_none {fl : List V} (h : ∀ (j : Nat) v, fl[j]? = some v → okv v FLAGSl = true) : firstBad fl = none := by
  refine List.find?_eq_none.mpr fun v hv => ?_
  obtain ⟨j, hj⟩ := List.mem_iff_getElem?.mp hv
  simp [h j v hj]
theorem first_bad : ∀ {fl : List V} {i : Nat} {x : V}, fl[i]? = some x → (∀ (j : Nat) v, j < i → fl[j]? = some v → okv v FLAGSl = true) → okv x FLAGSl = false → firstBad fl = some x
  | [], i, x, h, _, _ => by simp at h
  | a :: r, 0, x, h, _, hb => by
    cases Option.some.inj h
    unfold firstBad
    rw [List.find?_cons_of_pos (by simp [hb])]
  | a :: r, i + 1, x, h, hj, hb => by
    have ih := first_bad (fl := r) (i := i) (x := x) h (fun j v hl e => hj (j + 1) v (by omega) e) hb
    unfold firstBad at ih ⊢
    rw [List.find?_cons_of_neg (by simp [hj 0 a (by omega) rfl])]
    exact ih
theorem ite_eqT {i j : Int} {A B : Prop} (e : i = j) (h : A) : if decide (i = j) = true then A else B := by simpa [e] using h
theorem ite_eqF {i j : Int} {A B : Prop} (e : i ≠ j) (h : B) : if decide (i = j) = true then A else B := by simpa [e] using h
def rInsert : V → List V → Hp → VK → Prop := fun x vs H Q => ∃ (l : Addr) (xs : List V) (i : Int) (y : V), x = .ref l ∧ vs = [.int i, y] ∧ H l = some (.lst xs) ∧ xs.length < sizeLine ∧ 0 ≤ i ∧ i < 2 ^ 63 ∧ Q .non (upd H l (.lst (xs.take i.toNat ++ [y] ++ xs.drop i.toNat)))
theorem mtInsert {X : Cx} : MtR X "list.insert" rInsert := mt_insert
theorem r_insert {H : Hp} {Q : VK} {p : Addr} {xs : List V} {i : Int} {y : V} (h : H p = some (.lst xs)) (l : xs.length < sizeLine) (h0 : 0 ≤ i) (h1 : i < 2 ^ 63) (q : Q .non (upd H p (.lst (xs.take i.toNat ++ [y] ++ xs.drop i.toNat)))) : rInsert (.ref p) [.int i, y] H Q := ⟨p, xs, i, y, rfl, rfl, h, l, h0, h1, q⟩
theorem mem_ins {xs : List V} {n : Nat} {x y : V} : x ∈ xs.take n ++ [y] ++ xs.drop n ↔ x ∈ xs ∨ x = y := by
  have h : x ∈ xs ↔ x ∈ xs.take n ∨ x ∈ xs.drop n := by
    rw [← List.mem_append, List.take_append_drop]
  rw [h]
  simp only [List.mem_append, List.mem_cons, List.not_mem_nil, or_false]
  constructor
  · rintro ((h | h) | h)
    · exact .inl (.inl h)
    · exact .inr h
    · exact .inl (.inr h)
  · rintro ((h | h) | h)
    · exact .inl (.inl h)
    · exact .inr h
    · exact .inl (.inr h)
theorem len_ins {xs : List V} {n : Nat} {y : V} : (xs.take n ++ [y] ++ xs.drop n).length = xs.length + 1 := by
  simp only [List.length_append, List.length_take, List.length_drop, List.length_cons, List.length_nil]
  omega
def spMing : Sp := fun vs H Q _ => ∃ (p c q : Addr) (fl : List V), vs = [.ref p, .ref q] ∧ PenAt H p c ∧ H q = some (.lst fl) ∧ fl.length ≤ 1000 ∧ ∀ r H' gl, PenStep p c H H' → H r = none → H' r = some (.lst gl) → gl.length ≤ fl.length + 2 → (∀ x, x ∈ gl ↔ x ∈ fl) → Q (.ref r) H'
/-- a value that is found equal to itself -/
def SelfEq (K : PySem.W.Frag) (H : Hp) (v : V) : Prop := (∃ d, Dp K H v d ∧ d.plain = true ∧ d.depth ≤ 64) ∨ ∃ a ks, v = .ref a ∧ H a = some (.dK ks) ∧ ∀ p ∈ ks, valV ks p.1 = some p.2 ∧ flatB p.2 = true
mutual
theorem dp_same {K : PySem.W.Frag} {H H' : Hp} (s : Same H H') : ∀ {v : V} {d : PyData}, Dp K H v d → Dp K H' v d
  | _, _, .non => .non
  | _, _, .bl b => .bl b
  | _, _, .int i => .int i
  | _, _, .str x => .str x
  | _, _, .lst h k => .lst (s.seq h) (dps_same s k)
  | _, _, .tup h k => .tup (same_seqT s h) (dps_same s k)
theorem dps_same {K : PySem.W.Frag} {H H' : Hp} (s : Same H H') : ∀ {vs : List V} {ds : List PyData}, DpAll K H vs ds → DpAll K H' vs ds
  | _, _, .nil => .nil
  | _, _, .cons h k => .cons (dp_same s h) (dps_same s k)
end
theorem SelfEq.same {K : PySem.W.Frag} {H H' : Hp} {v : V} (h : SelfEq K H v) (s : Same H H') : SelfEq K H' v := by
  rcases h with ⟨d, h, a, b⟩ | ⟨a, ks, e, h, k⟩
  · exact .inl ⟨d, dp_same s h, a, b⟩
  · exact .inr ⟨a, ks, e, s _ _ h, k⟩
theorem SelfEq.eq {K : PySem.W.Frag} {H H' : Hp} {v : V} {Q : VK} (h : SelfEq K H v) (s : Same H H') (q : Q (.bl true) H') : rOr (rEqP K) (rEqV K) v v H' Q := by
  rcases h.same s with ⟨d, h, a, b⟩ | ⟨a, ks, rfl, h, k⟩
  · refine .inl ⟨d, d, h, h, a, a, b, ?_⟩
    rw [SeqAt.eqv_refl_plain d a]
    exact q
  · exact .inr ⟨1, by decide, .inr ⟨a, a, ks, ks, rfl, rfl, h, h, rfl, fun p hp => ⟨p.2, (k p hp).1, .inl ⟨rfl, (k p hp).2⟩⟩⟩, q⟩
theorem r_neStr {K : PySem.W.Frag} {H : Hp} {Q : VK} {x y : Str} (e : x = y) (q : Q (.bl false) H) : rNeP K (.str x) (.str y) H Q := r_neT x y (.str x) (.str y) (by
  subst e
  simpa using q)
theorem mem_strs {ss : List Str} {x : Str} : V.str x ∈ ss.map V.str ↔ x ∈ ss := by
  rw [List.mem_map]
  exact ⟨fun ⟨y, h, e⟩ => (V.str.inj e) ▸ h, fun h => ⟨x, h, rfl⟩⟩
theorem strs_inj : ∀ {ss tt : List Str}, ss.map V.str = tt.map V.str → ss = tt
  | [], [], _ => rfl
  | [], _ :: _, h => by cases h
  | _ :: _, [], h => by cases h
  | a :: ss, b :: tt, h => by
    have h' := List.cons.inj h
    rw [V.str.inj h'.1, strs_inj h'.2]
/-- the part of H' that was not there in H0 -/
def newOf (H0 H' : Hp) : Hp := fun b => if (H0 b).isNone = true then H' b else none
theorem newOf_at {H0 H' : Hp} {b : Addr} {o : HO} (n : H0 b = none) (e : H' b = some o) : newOf H0 H' b = some o := by
  unfold newOf
  rw [n]
  exact e
theorem newOf_get {H0 H' : Hp} {b : Addr} {o : HO} (e : newOf H0 H' b = some o) : H0 b = none ∧ H' b = some o := by
  unfold newOf at e
  by_cases h : (H0 b).isNone = true
  · rw [if_pos h] at e
    exact ⟨Option.isNone_iff_eq_none.mp h, e⟩
  · rw [if_neg h] at e
    cases e
def spOddN (K : PySem.W.Frag) : Sp := fun vs H Q _ => ∃ (p c : Addr), vs = [.ref p] ∧ PenAt H p c ∧ ∀ v H', PenStep p c H H' → OddV p H' v → okv v FLAGSl = false → SelfEq K (newOf H H') v → Q v H'
end Wm
namespace Wm
open PySem PySem.SeqAt PyProof.Rows PySem.Spec PySem.Calls
theorem str_eq_declines_dict (b : Str) (u : Tok) (l : Addr) (c : Value) (es : Array DictEntry) (n : Nat) (dd : Option Addr) (sl : Array (Option Value)) :
    Meets (Builtin.«str.__eq__» ⟨[.str b u, .ref l], []⟩) (fun _ R s => s.heap.get? l = some { cls := c, dict := dd, data := .dict es n, slots := sl } ∧ R (.ok (.ret .notImplemented)) s) :=
  .of_wp fun prog w A R s h => by obtain ⟨hp, g, d, tk, os⟩ := s; obtain ⟨hl, h⟩ := h; wp_walk using wpAny_loadPart' hl; exact ⟨_, rfl, h⟩
theorem dict_eq_declines_str (l : Addr) (es : Array DictEntry) (n : Nat) (dd : Option Addr) (sl : Array (Option Value)) (b : Str) (u : Tok) :
    Meets (Builtin.«dict.__eq__» ⟨[.ref l, .str b u], []⟩) (fun _ R s => s.heap.get? l = some { cls := .type "dict", dict := dd, data := .dict es n, slots := sl } ∧ R (.ok (.ret .notImplemented)) s) :=
  .of_wp fun prog w A R s h => by obtain ⟨hp, g, d, tk, os⟩ := s; obtain ⟨hl, h⟩ := h; have f1 := F.sub_str_dict; wp_walk using wpAny_loadPart' hl; exact ⟨_, rfl, h⟩
section
variable {A : Around} {s : Shared}
theorem rc_str_dict {l : Addr} {es : Array DictEntry} {n : Nat} {dd : Option Addr} {sl : Array (Option Value)} (b : Str) (u : Tok) (ho : s.heap.get? l = some { cls := .type "dict", dict := dd, data := .dict es n, slots := sl }) (hu : A.units < cLine) : RcAt A s (.str b u) (.ref l) false := fun prog w E Q h =>
  rc_eq_decline_or (k := false) (typeIs_str s b u) ⟨_, ho, rfl⟩ (by decide) F.sub_dict_str F.slot_str_eq F.slot_dict_eq_refl
    (fun _ hq => call_meets F.slot_str_eq (typeIs_str s b u) F.entry_str_eq (F.args_str_eq_2 _ _) (str_eq_declines_dict b u l (.type "dict") es n dd sl) ⟨ho, hq⟩)
    (fun _ hq => call_meets F.slot_dict_eq_refl ⟨_, ho, rfl⟩ F.entry_dict_eq (F.args_dict_eq_2 _ _) (dict_eq_declines_str l es n dd sl b u) ⟨ho, hq⟩)
    (fun _ hq => wpAny_of_eq (rfl : isSame (.str b u) (.ref l) = pure false) hq) (.inr hu) h
theorem eq_str_dict {l : Addr} {es : Array DictEntry} {n : Nat} {dd : Option Addr} {sl : Array (Option Value)} (b : Str) (u : Tok) (ho : s.heap.get? l = some { cls := .type "dict", dict := dd, data := .dict es n, slots := sl }) (hu : A.units < cLine) : EqAt A s (.str b u) (.ref l) false := fun prog w E Q h => by
  unfold eqBool
  refine wpAny_holding ?_
  refine wpAny_ite_split (fun hab => absurd (eq_of_beq hab) nofun) (fun _ => ?_)
  exact wpAny_bind (rc_str_dict b u ho hu prog w E _ (wpAny_truthy_bool h))
end
section
open L2
variable {X : Cx} {pins : List (Addr × Obj)} {σ : L2.St} {H : Hp} {s : Shared}
theorem eq_str_any (I : Inv X pins σ H s) {a : Addr} (h : AnyV H (.ref a)) {A : Around} (hu : A.units < cLine) (b : Str) (u : Tok) : EqAt A s (.str b u) (.ref a) false := by
  rcases h with ⟨xs, h⟩ | ⟨xs, h⟩ | ⟨kvs, h⟩
  · obtain ⟨its, r, pl, hz⟩ := I.list (SqL.of (K := X.K) h)
    exact EqAt.str_list b u pl.isList hu
  · obtain ⟨its, r, pl, hz⟩ := I.tuple (SqT.of (K := X.K) h)
    exact EqAt.str_tuple b u pl hu
  · obtain ⟨_, ya, va, ra, da⟩ := (show ObjOk X.prog X.w H s.heap a (.dK kvs) from I.hok a _ h)
    obtain ⟨o, es, ep, ho, hx, hd, _⟩ := da
    obtain ⟨oc, od, dt, sl⟩ := o
    obtain ⟨h1, h2, h3⟩ := hx
    simp only at h1 hd
    subst h1 hd
    exact eq_str_dict b u ho hu
def rNotStr (K : PySem.W.Frag) : R2 := fun x y H Q => ∃ (a p : Addr) (ss : List Str), x = .ref a ∧ y = .ref p ∧ AnyV H (.ref a) ∧ SqA K H p (ss.map V.str) ∧ Q (.bl true) H
theorem op_notStr (hu : X.A.units + 64 < cLine) : OpR X (compareOp .NotIn) (rNotStr X.K) := by
  intro pins s σ H x y v u Q I rx ry h
  obtain ⟨a, p, ss, rfl, rfl, ha, hq, q⟩ := h
  cases (show v = Value.ref a from rx)
  cases (show u = Value.ref p from ry)
  have key : ∀ {its : List Value}, Vals (ss.map V.str) its → ∀ w, w ∈ its → EqAt X.A.in1 s w (.ref a) ((fun _ : Value => false) w) := fun {its} r w hw => by
    obtain ⟨i, hi⟩ := List.mem_iff_getElem?.mp hw
    have hl : i < (ss.map V.str).length := by
      rw [r.length]
      rcases Nat.lt_or_ge i its.length with z | z
      · exact z
      · rw [List.getElem?_eq_none z] at hi
        cases hi
    obtain ⟨w', h1, h2⟩ := r.get (List.getElem?_eq_getElem hl)
    rw [hi] at h1
    cases h1
    rw [List.getElem_map] at h2
    obtain ⟨t, rfl⟩ := h2
    exact eq_str_any I ha (by show X.A.units + 1 < cLine; omega) _ t
  rcases hq with hq | hq
  · obtain ⟨its, r, pl, hz⟩ := I.list hq
    refine SeqAt.notIn_listAt (fun _ => false) pl.isList (fun w hw => key r w (by simpa using hw)) ⟨.bl true, H, I, ?_, q⟩
    show Value.bool (!its.toArray.any fun _ => false) = Value.bool true
    simp
  · obtain ⟨its, r, pl, hz⟩ := I.tuple hq
    refine SeqAt.notIn_tupleAt (fun _ => false) pl (fun w hw => key r w (by simpa using hw)) ⟨.bl true, H, I, ?_, q⟩
    show Value.bool (!its.toArray.any fun _ => false) = Value.bool true
    simp
end
section
open L2
variable {D : Ends} {σ : L2.St} {H : Hp} {Q : VK} {K : PySem.W.Frag}
def slEnd (r : V → Option Int → Option Int → Hp → VK → Prop) (Q : VK) (x : V) (lo : Option Int) : Option Int → Hp → Prop := fun hi H3 => r x lo hi H3 Q
theorem r_slice {r : V → Option Int → Option Int → Hp → VK → Prop} {te : TE} {tl th : TO} (h : te σ H fun x H1 => tl σ H1 fun lo H2 => th σ H2 (slEnd r Q x lo)) : tSl r te tl th σ H Q := h
theorem r_nopart {R : Option Int → Hp → Prop} (h : R none H) : tNoPart σ H R := h
theorem r_part {te : TE} {R : Option Int → Hp → Prop} (h : te σ H fun x H1 => ∃ i, x = .int i ∧ R (some i) H1) : tPart te σ H R := h
theorem r_partI {i : Int} {R : Int → Prop} (q : R i) : ∃ j, V.int i = .int j ∧ R j := ⟨i, rfl, q⟩
theorem r_slL {p : Addr} {xs : List V} {lo hi : Option Int} (h : H p = some (.lst xs)) (k : ∀ q H', H q = none → Same H H' → H' q = some (.lst (cutV xs lo hi)) → Q (.ref q) H') : slEnd (rSlL K) Q (.ref p) lo hi H := ⟨p, xs, rfl, SqL.of h, fun q n => k q _ n (same_new n) upd_same⟩
theorem eqv_self {v : V} (h : AnyV H v) : EqV K H 1 v v := by
  cases v with
  | ref a => exact .inr (.inl ⟨a, rfl, rfl⟩)
  | non => exact .inl ⟨rfl, rfl⟩
  | bl b => exact .inl ⟨rfl, rfl⟩
  | int i => exact .inl ⟨rfl, rfl⟩
  | str x => exact .inl ⟨rfl, rfl⟩
  | _ => exact h.elim
/-- a drawn flag: p the pen, fr the list that it stands in -/
structure GoodV (K : PySem.W.Frag) (p fr : Addr) (H : Hp) (v : V) : Prop where
  odd : OddV p H v
  sf : ∃ G : Hp, SelfEq K G v ∧ ∀ b o, G b = some o → b ≠ p ∧ b ≠ fr ∧ H b = some o
  kind : okv v FLAGSl = false ∨ ∃ x, v = .str x ∧ x ∈ (["here", "left", "twin left"] : List Str)
theorem GoodV.self {p fr : Addr} {v : V} (h : GoodV K p fr H v) : SelfEq K H v := by
  obtain ⟨G, a, b⟩ := h.sf
  exact a.same fun c o e => (b c o e).2.2
theorem GoodV.step {p c fr : Addr} {H' : Hp} {v : V} (h : GoodV K p fr H v) (s : PenStep p c H H') : GoodV K p fr H' v := by
  obtain ⟨G, a, b⟩ := h.sf
  exact ⟨h.odd.step s, ⟨G, a, fun c o e => ⟨(b c o e).1, (b c o e).2.1, s.keep c o (b c o e).1 (b c o e).2.2⟩⟩, h.kind⟩
theorem GoodV.same {p fr : Addr} {H' : Hp} {v : V} (h : GoodV K p fr H v) (s : Same H H') : GoodV K p fr H' v := by
  obtain ⟨G, a, b⟩ := h.sf
  exact ⟨h.odd.same s, ⟨G, a, fun c o e => ⟨(b c o e).1, (b c o e).2.1, s c o (b c o e).2.2⟩⟩, h.kind⟩
theorem GoodV.put {p fr : Addr} {v : V} {xs : List V} (h : GoodV K p fr H v) : GoodV K p fr (upd H fr (.lst xs)) v := by
  obtain ⟨G, a, b⟩ := h.sf
  exact ⟨h.odd.put, ⟨G, a, fun c o e => ⟨(b c o e).1, (b c o e).2.1, by rw [upd_ne (b c o e).2.1]; exact (b c o e).2.2⟩⟩, h.kind⟩
theorem good_str {p fr : Addr} {x : Str} (h : okv (.str x) FLAGSl = false ∨ x ∈ (["here", "left", "twin left"] : List Str)) : GoodV K p fr H (.str x) :=
  ⟨oddS, ⟨fun _ => none, .inl ⟨_, .str x, rfl, by simp [PyData.depth]⟩, fun b o e => by cases e⟩, h.imp id fun h => ⟨x, rfl, h⟩⟩
theorem good_odd {p c fr : Addr} {H0 : Hp} {v : V} {of : HO} (hp : PenAt H0 p c) (hf : H0 fr = some of) (o : OddV p H v) (b : okv v FLAGSl = false) (s : SelfEq K (newOf H0 H) v) : GoodV K p fr H v :=
  ⟨o, ⟨newOf H0 H, s, fun c u e => by
    refine ⟨fun z => ?_, fun z => ?_, (newOf_get e).2⟩
    · obtain ⟨w, hw⟩ := hp.some_p
      rw [z] at e
      rw [(newOf_get e).1] at hw
      cases hw
    · rw [z] at e
      rw [(newOf_get e).1] at hf
      cases hf⟩, .inl b⟩
theorem three_flags {x : Str} (h : x ∈ (["here", "left", "twin left"] : List Str)) : okv (.str x) FLAGSl = true := by
  simp only [List.mem_cons, List.not_mem_nil, or_false] at h
  rcases h with rfl | rfl | rfl <;> decide
theorem bad_head {fl : List V} : firstBad fl = (fl.filter fun v => !okv v FLAGSl).head? := by
  unfold firstBad
  rw [← List.head?_filter]
end
section
open L2
variable {H : Hp} {Q : VK} {K : PySem.W.Frag}
theorem notin_three {v : V} {q : Addr} (ha : AnyV H v) (kd : okv v FLAGSl = false ∨ ∃ x, v = .str x ∧ x ∈ (["here", "left", "twin left"] : List Str)) (h : H q = some (.lst [.str "here", .str "left", .str "twin left"])) (k : Q (.bl (!okv v FLAGSl)) H) : rOr (rIn K true) (rNotStr K) v (.ref q) H Q := by
  have hq : SqL K H q ((["here", "left", "twin left"] : List Str).map V.str) := SqL.of h
  cases v with
  | non => exact .inl (r_in (.inl hq) rfl rfl k)
  | bl b => exact .inl (r_in (.inl hq) rfl rfl k)
  | int i => exact .inl (r_in (.inl hq) rfl rfl k)
  | str x =>
    refine .inl (r_inSN (.inl hq) ?_)
    have e : decide (x ∈ (["here", "left", "twin left"] : List Str)) = okv (.str x) FLAGSl := by
      rcases kd with h | ⟨y, e, h⟩
      · rw [h]
        refine decide_eq_false fun z => ?_
        rw [three_flags z] at h
        cases h
      · cases e
        rw [three_flags h]
        exact decide_eq_true h
    rw [e]
    exact k
  | ref a => exact .inr ⟨a, q, _, rfl, rfl, ha, .inl hq, k⟩
  | _ => exact ha.elim
theorem cut_mem {xs : List V} {lo hi : Option Int} {x : V} (h : x ∈ cutV xs lo hi) : x ∈ xs := List.mem_of_mem_drop (List.mem_of_mem_take h)
theorem eq_pair {p q : Addr} {v : V} (h : H p = some (.lst [.str "none", v])) (h' : H q = some (.lst [.str "none", v])) (ha : AnyV H v) (k : Q (.bl true) H) : rEqV K (.ref p) (.ref q) H Q :=
  ⟨1, by decide, .inl ⟨p, q, _, _, rfl, rfl, SqL.of h, SqL.of h', .cons (.inl ⟨rfl, rfl⟩) (.cons (eqv_self ha) .nil)⟩, k⟩
end
end Wm
/-! errors as values -/
namespace PySem.W
open PySem PySem.Spec PySem.Calls PyProof.Rows
section
variable {prog : Program} {w : World} {A : Around} {E : Value → Shared → Prop} {s : Shared} {K : Frag} {x D : Addr} {ox : Obj} {od : Option Obj}
theorem erv_find (hc : (clsIn K D).isSome = true) {g a : Value} {n : Str} (ha : findIn K (.ref D) n = some (some a)) (hg : specialIn K a "__get__" = some (some g)) (ht : takesIn K a = some true) : findObj K D od n = some (.bind g a) := by
  obtain ⟨cd, e⟩ := Option.isSome_iff_exists.mp hc
  unfold findObj
  rw [e, Option.bind_some, ha, Option.bind_some]
  simp [hg, ht]
theorem erv_class {R : Option Value → Shared → Prop} (C : L2.ExcC K D) (X : K.In s.heap) (I : InstAt s.heap x ox D od) (h : R (some (.ref D)) { s with toks := s.toks + 1 }) : wpAny (model prog w) A (getAttr? (.ref x) "__class__") R E s := by
  obtain ⟨hga, hgt, hsub, hdct, ha, hn, htk, hm⟩ := C
  have hf : findObj K D od "__class__" = some (.bind (.builtin "getset_descriptor.__get__") (.builtin "object.__class__")) := erv_find (by obtain ⟨cd, hc, _⟩ := any_some hdct; rw [hc]; rfl) ha hn htk
  obtain ⟨hp, gg, dr, tk, os⟩ := s
  have M0 := I.type (M := model prog w)
  have M1 := looks_findIn (M := model prog w) X hga
  have M2 := looks_findIn (M := model prog w) X hgt
  have M3 := looks_find (M := model prog w) X I hf
  have sb : Looks (model prog w) hp (isInstance (.ref x) (.type "BaseException")) true := M0.andThen (looks_subIn X hsub)
  have z0 : (false && onTheHeap (Value.builtin "BaseException.__getattribute__")) = false := rfl
  have z2 : (Value.builtin "BaseException.__getattribute__" == Value.builtin "object.__getattribute__") = false := by decide +kernel
  have z1 : (onTheHeap (Value.ref D) && Value.builtin "BaseException.__getattribute__" == Value.builtin "object.__getattribute__") = false := by rw [z2]; rfl
  unfold getAttr? getAttrBy? getAttrBy
  refine wpAny_bind (wpAny_mkText (wpAny_bind (wpAny_attempt (wpAny_holding (wpAny_bind (M0.at (wpAny_bind (M1.at ?_))))))))
  show wpAny _ _ (if (onTheHeap (Value.ref D) && Value.builtin "BaseException.__getattribute__" == Value.builtin "object.__getattribute__") = true then _ else _) _ _ _
  rw [z1, if_neg Bool.false_ne_true]
  unfold getAttrByItsOwn hookBefore
  refine wpAny_bind ?_
  rw [if_pos (show onTheHeap (Value.ref D) = true from rfl)]
  refine M2.at ?_
  refine wpAny_bind (wpAny_attempt (wpAny_holding ?_))
  unfold callGetattribute
  rw [z0, if_neg Bool.false_ne_true]
  unfold boundAndCalled
  rw [PySem.F.excAttr_ValueError.ga.bind (.ref x)]
  refine wpAny_bind (wpAny_pure ?_)
  show wpAny _ _ (call (.builtin "BaseException.__getattribute__") [.ref x, .str "__class__" tk]) _ _ _
  refine wpAny_call (codeAny_call_builtin PySem.F.excAttr_ValueError.ga.plain PySem.F.entry_bexc_ga ?_)
  refine @check_slot (model prog w) _ _ ⟨hp, gg, dr, tk + 1, os⟩ "BaseException.__getattribute__" "BaseException" "__getattribute__" (.ref x) [.str "__class__" tk] [] _ (by decide +kernel) (by decide +kernel) sb (PySem.F.args_bexc_ga (.ref x) (.str "__class__" tk)) ?_
  unfold Builtin.«object.__getattribute__»
  refine wpAny_bind (wpAny_of_eq (a := ((Value.ref x : Value), [Value.str "__class__" tk])) (by first | rfl | (simp only [slotArgs]; rfl)) ?_)
  refine wpAny_bind (wpAny_pure (wpAny_bind (M0.at (wpAny_bind (M3.at ?_)))))
  show wpAny _ _ (holding [Value.builtin "object.__class__"] (call (.builtin "getset_descriptor.__get__") [.builtin "object.__class__", .ref x, .ref D]) >>= ret) _ _ _
  refine wpAny_bind (wpAny_holding (wpAny_call (class_get (s := ⟨hp, gg, dr, tk + 1, os⟩) (ox := ox) (od := od) X I hm ?_)))
  refine wpAny_pure ?_
  show wpAny _ _ (handedOut (.ref D)) _ _ _
  rw [handedOut_of (v := .ref D) rfl]
  first
    | exact wpAny_pure (wpAny_pure h)
    | exact wpAny_pure h
    | exact wpAny_pure (wpAny_bind (wpAny_pure (wpAny_pure h)))
theorem erv_kit (C : L2.ExcC K D) : KitX K (.ref x) (.ref D) (fun h => InstAt h x ox D od) where
  ty := fun _ _ _ I => I.type
  it := fun _ _ X _ => by
    obtain ⟨cdD, hcD, _⟩ := any_some C.hd
    unfold clsIn at hcD
    split at hcD
    · rename_i c' d' cd' sl' ho
      intro A' Q' E' s' k q
      unfold isType loadHead
      exact wpAny_bind (wpAny_loadPart (k _ _ (X _ _ ho)) (wpAny_pure q))
    · cases hcD
  ne := fun h tp dd its n sl X htp => by
    obtain ⟨cdD, hcD, _⟩ := any_some C.hd
    refine Bool.eq_false_iff.mpr fun q => ?_
    have e : D = tp := Value.ref.inj (beq_iff_eq.mp q)
    subst e
    unfold clsIn at hcD
    split at hcD
    · rename_i c' d' cd' sl' ho
      cases (X _ _ ho).symm.trans htp
    · cases hcD
  ca := fun X I k => erv_class C X I k
end
end PySem.W
namespace L2
open PySem PySem.Spec PyProof.Rows
/-- an error value of the class at C, its own dict d, at a -/
def ErO (C : Addr) (d : Option Addr) (a : Addr) : HO := .ext fun h => ∃ (oe : Obj) (vs : Array Value), h.get? a = some oe ∧ Zc (.ref C) d oe ∧ oe.data = .fields vs
theorem erO_ok {P : Program} {w : World} {H : Hp} {h : Heap} {a C : Addr} {d : Option Addr} {oe : Obj} {vs : Array Value} (e : h.get? a = some oe) (z : Zc (.ref C) d oe) (f : oe.data = .fields vs) : ObjOk P w H h a (ErO C d a) :=
  ⟨⟨oe, vs, e, z, f⟩, ⟨oe, e⟩, fun _ _ ⟨o, v, q, r⟩ k => ⟨o, v, k o q, r⟩⟩
section
variable {X : Cx} {C : Addr} {qual : Str} {fs : List Str}
theorem er_val {pins : List (Addr × Obj)} {σ : St} {H1 : Hp} {s1 : Shared} {vs : List V} {us : List Value} {Q : VK} {k : Nat} (T : ErC X.prog X.K qual fs C) (hr : Room k X.A) (I1 : Inv X pins σ H1 s1) (r1 : Vals vs us) (hl : vs.length = fs.length) (hz : vs.length ≤ 1000)
    (q0 : fs = [] → ∀ a, H1 a = none → Q (.ref a) (upd H1 a (ErO C none a))) (q1 : fs ≠ [] → ∀ a d, H1 a = none → H1 d = none → d ≠ a → Q (.ref a) (upd (upd H1 d (.xd (fs.zip vs))) a (ErO C (some d) a))) :
    wpAny (model X.prog X.w) X.A (call (.ref C) us) (EP X pins σ Q) X.xe s1 := by
  obtain ⟨fI, B, newId, initId, bmB, T1, KF, FB, SF, hex⟩ := T.ex
  have hlim := I1.nolimit
  have hK := I1.kIn
  have hm := I1.mod
  obtain ⟨mb, hb, hbt⟩ := hm.blt
  have hg := hm.glob.keeps I1.bk
  have hb' := hb.keeps I1.bk
  have lu : us.length = fs.length := r1.length.symm.trans hl
  have zu : us.length ≤ sizeLine := by
    rw [← r1.length, sizeLine_eq]
    omega
  obtain ⟨hp, g, dr, tk, os⟩ := s1
  refine wpAny_call (PySem.Er.er_made T1 KF FB SF hex hK hlim hg hb' (hbt "super" (by decide)) (by have := hr.dp; omega) lu zu fun h' tk' e t1 dd M => ?_)
  show EP X pins σ Q (.ref e) ⟨h', g, dr, tk', os⟩
  obtain ⟨G', g1, g2⟩ := restrict h' fun b => decide (b ≠ e)
  have gk : ∀ b, b ≠ e → G'.get? b = h'.get? b := fun b hb => g1 b (decide_eq_true hb)
  have ge : G'.get? e = none := g2 e (by simp)
  have old : ∀ b o, hp.get? b = some o → G'.get? b = some o := fun b o q => (gk b (Nat.ne_of_lt (Nat.lt_of_lt_of_le (Heap.lt_size q) M.new))).trans (M.keep b o q)
  have back : ∀ b o, G'.get? b = some o → h'.get? b = some o := fun b o q => by
    by_cases hb : b = e
    · rw [hb, ge] at q
      cases q
    · exact (gk b hb).symm.trans q
  have fe : H1 e = none := I1.hok.fresh M.new
  rcases M.dict with ⟨ed, ef⟩ | ⟨e0, dx, ed, big, ne, mA, hns, hmA⟩
  · subst ed
    have f0 : fs = [] := by
      cases fs with
      | nil => rfl
      | cons a l =>
        cases us with
        | nil => cases lu
        | cons u us => cases ef
    have J : Inv X pins σ H1 ⟨G', g, dr, tk', os⟩ := I1.kept (t' := tk') old
    have J2 : Inv X pins σ (upd H1 e (ErO C none e)) ⟨h', g, dr, tk', os⟩ := J.laidN (t' := tk') back ge fe (erO_ok M.obj ⟨rfl, rfl⟩ rfl)
    exact ⟨.ref e, _, J2, rfl, q0 f0 e fe⟩
  · subst ed
    have f0 : fs ≠ [] := fun z => e0 (by rw [z]; rfl)
    have ob : ObjOk X.prog X.w (upd H1 dx (.xd (fs.zip vs))) G' dx (.xd (fs.zip vs)) := ⟨mA, hns.at (fun o q => (gk dx ne).trans q), fun f => by rw [hmA f]; exact relO_zip r1 f⟩
    have J : Inv X pins σ (upd H1 dx (.xd (fs.zip vs))) ⟨G', g, dr, tk', os⟩ := I1.laid (t' := tk') old big ob
    have fe2 : upd H1 dx (.xd (fs.zip vs)) e = none := by rw [upd_ne (Ne.symm ne)]; exact fe
    have J2 : Inv X pins σ (upd (upd H1 dx (.xd (fs.zip vs))) e (ErO C (some dx) e)) ⟨h', g, dr, tk', os⟩ := J.laidN (t' := tk') back ge fe2 (erO_ok M.obj ⟨rfl, rfl⟩ rfl)
    exact ⟨.ref e, _, J2, rfl, q1 f0 e dx fe (I1.hok.fresh big) ne⟩
/-- C(e, ..) as a value -/
def tErV (C : Addr) (fs : List Str) (ta : TA) : TE := fun σ H Q => ta σ H fun vs H1 => vs.length = fs.length ∧ vs.length ≤ 1000 ∧ (fs = [] → ∀ a, H1 a = none → Q (.ref a) (upd H1 a (ErO C none a))) ∧
  (fs ≠ [] → ∀ a d, H1 a = none → H1 d = none → d ≠ a → Q (.ref a) (upd (upd H1 d (.xd (fs.zip vs))) a (ErO C (some d) a)))
section
variable {x : Str} {p pos : Pos} {e : Expr} {es : List Expr} {ta : TA} {k : Nat}
theorem pe_erV (T : ErC X.prog X.K qual fs C) (hr : Room k X.A) (hm : X.mg x = some (.ref C)) (ha : PA X (e :: es) ta) (hg : Gl X x := by rfl) (hdb : (x == ("__debug__" : Str)) = false := by decide)
    (he : starEach (e :: es) X.env = (false, eval e X.env) :: starEach es X.env := by rfl) (hpl : (backTo pos (starEach es X.env)).any (·.1) = false := by rfl) : PE X (.Call (.Name x p) (e :: es) [] pos) (tErV C fs ta) := by
  refine ⟨fun pins s σ H Q I h => ?_⟩
  refine wpAny_Call_Name_kw (ld_glob I hg hm ?_ hdb)
  refine PySem.W.callWith_K (h₀ := X.base) I.ok.mod.kin T.kC (thn (ha.run pos pins s σ H _ I h) fun us s1 hh => ?_) he hpl
  obtain ⟨vs, H1, I1, r1, hl, hz, q0, q1⟩ := hh
  exact ⟨I1.kIn, er_val T hr I1 r1 hl hz q0 q1⟩
theorem pe_erV0 (T : ErC X.prog X.K qual [] C) (hr : Room k X.A) (hm : X.mg x = some (.ref C)) (hg : Gl X x := by rfl) (hdb : (x == ("__debug__" : Str)) = false := by decide) : PE X (.Call (.Name x p) [] [] pos) (tErV C [] tNil) := by
  refine ⟨fun pins s σ H Q I h => ?_⟩
  refine wpAny_Call_Name_kw (ld_glob I hg hm ?_ hdb)
  refine PySem.W.callWith_K0 I.kIn T.kC ?_
  obtain ⟨hl, hz, q0, q1⟩ := h
  exact er_val T hr I .nil hl hz q0 q1
end
/-- isinstance(e, c), e an error value -/
def rIsV (K : PySem.W.Frag) : List V → Hp → VK → Prop := fun xs H Q => ∃ (a D : Addr) (d : Option Addr) (c : V) (cv : Value) (b : Bool), xs = [.ref a, c] ∧ H a = some (ErO D d a) ∧ (∀ dd, d = some dd → ∃ fs, H dd = some (.xd fs)) ∧ ExcC K D ∧ ClsV c cv ∧ PySem.W.kitOne K (.ref D) cv = some b ∧ Q (.bl b) H
theorem call_isV : CallR X (.builtin "isinstance") (rIsV X.K) := by
  intro pins s σ H xs us Q I r h
  obtain ⟨a, D, d, c, cv, b, rfl, ha, hd, E, hcv, e, q⟩ := h
  obtain ⟨u1, u2, rfl, r1, r2⟩ := vals2 r
  cases (show u1 = Value.ref a from r1)
  have ec := hcv.eq r2
  subst ec
  obtain ⟨⟨oe, vs, hget, hz, hv⟩, _, _⟩ := (show ObjOk X.prog X.w H s.heap a (ErO D d a) from I.hok a _ ha)
  obtain ⟨od, J⟩ : ∃ od, PySem.W.InstAt s.heap a oe D od := by
    obtain ⟨oc, odd, oda, osl⟩ := oe
    obtain ⟨h1, h2⟩ := hz
    dsimp only at h1 h2 hv
    subst h1 h2 hv
    cases odd with
    | none => exact ⟨none, hget, rfl, rfl, trivial⟩
    | some dd =>
      obtain ⟨fs, hdd⟩ := hd dd rfl
      obtain ⟨mA, hns, _⟩ := (show ObjOk X.prog X.w H s.heap dd (.xd fs) from I.hok dd _ hdd)
      obtain ⟨od, ho, _⟩ := lookIn_ns hns
      exact ⟨some od, hget, rfl, rfl, ho⟩
  exact PySem.W.kia_one (PySem.W.erv_kit E) I.kIn J e (fun z => nomatch z) fun tk => ⟨.bl b, H, I.kept (t' := tk) fun _ _ z => z, rfl, q⟩
/-- e.f, e an error value -/
def tErF (K : PySem.W.Frag) (f : Str) (te : TE) : TE := fun σ H Q => te σ H fun x H1 => ∃ (a C dd : Addr) (fs : List (Str × V)) (v : V), x = .ref a ∧ H1 a = some (ErO C (some dd) a) ∧ XfC K C ∧ PySem.W.findIn K (.ref C) f = some none ∧ H1 dd = some (.xd fs) ∧ fs.lookup f = some v ∧ Q v H1
theorem pe_erF {e : Expr} {te : TE} {pos : Pos} {n : Str} (he : PE X e te) (hb : attributeBase e n X.env (eval e X.env) = eval e X.env := by rfl) : PE X (.Attribute e n pos) (tErF X.K n te) := by
  refine ⟨fun pins s σ H Q I h => ?_⟩
  refine attr_of hb (thn (he.run pins s σ H _ I h) fun u s1 hh => ?_)
  obtain ⟨x, H1, I1, rx, a, D, dd, fs, v, ex, hA, T, hno, ea, l, q⟩ := hh
  subst ex
  obtain rfl : u = Value.ref a := rx
  obtain ⟨⟨oe, vs, hget, hz, hv⟩, _, _⟩ := (show ObjOk X.prog X.w H1 s1.heap a (ErO D (some dd) a) from I1.hok a _ hA)
  obtain ⟨mA, hns, hr⟩ := (show ObjOk X.prog X.w H1 s1.heap dd (.xd fs) from I1.hok dd _ ea)
  obtain ⟨od, ho, hl⟩ := lookIn_ns hns
  obtain ⟨u, hu, ru⟩ := RelO.some_of (v := v) (o := mA n) (by rw [← l]; exact hr n)
  have J : PySem.W.InstAt s1.heap a oe D (some od) := ⟨hget, hz.1, by unfold PySem.W.notCls; rw [hv] <;> rfl, by rw [hz.2]; exact ho⟩
  exact HandSPX.exc_get I1.kIn J T.ga T.gg T.exC (PySem.W.findObj_own T.hdC hno rfl (by rw [hl, hu])) (handed_of ru) ⟨v, H1, I1.tok _, ru, q⟩
end
end L2
namespace Wm
open PySem L2
section
variable {D : Ends} {σ : L2.St} {H : Hp} {Q : VK} {K : PySem.W.Frag}
def ervEnd (C : Addr) (fs : List Str) (Q : VK) : List V → Hp → Prop := fun vs H1 => vs.length = fs.length ∧ vs.length ≤ 1000 ∧ (fs = [] → ∀ a, H1 a = none → Q (.ref a) (upd H1 a (ErO C none a))) ∧
  (fs ≠ [] → ∀ a d, H1 a = none → H1 d = none → d ≠ a → Q (.ref a) (upd (upd H1 d (.xd (fs.zip vs))) a (ErO C (some d) a)))
theorem r_erV {C : Addr} {fs : List Str} {ta : TA} (h : ta σ H (ervEnd C fs Q)) : tErV C fs ta σ H Q := h
theorem r_erVE {C : Addr} {fs : List Str} {vs : List V} (l : vs.length = fs.length) (l2 : vs.length ≤ 1000) (hn : fs ≠ []) (k : ∀ a d H', H a = none → Same H H' → H' a = some (ErO C (some d) a) → H' d = some (.xd (fs.zip vs)) → Q (.ref a) H') : ervEnd C fs Q vs H :=
  ⟨l, l2, fun z => absurd z hn, fun _ a d na nd ne => k a d _ na (same_put (same_new nd) na) upd_same (by rw [upd_ne ne]; exact upd_same)⟩
theorem r_erVE0 {C : Addr} (k : ∀ a H', H a = none → Same H H' → H' a = some (ErO C none a) → Q (.ref a) H') : ervEnd C [] Q [] H := ⟨rfl, Nat.zero_le _, fun _ a na => k a _ na (same_new na) upd_same, fun z => absurd rfl z⟩
def erfE (K : PySem.W.Frag) (f : Str) (Q : VK) : VK := fun x H1 => ∃ (a C dd : Addr) (fs : List (Str × V)) (v : V), x = .ref a ∧ H1 a = some (ErO C (some dd) a) ∧ XfC K C ∧ PySem.W.findIn K (.ref C) f = some none ∧ H1 dd = some (.xd fs) ∧ fs.lookup f = some v ∧ Q v H1
theorem r_erF {f : Str} {te : TE} (h : te σ H (erfE K f Q)) : tErF K f te σ H Q := h
theorem r_erFK {a C dd : Addr} {fs : List (Str × V)} {f : Str} {v : V} (h : H a = some (ErO C (some dd) a)) (T : XfC K C) (n : PySem.W.findIn K (.ref C) f = some none) (h' : H dd = some (.xd fs)) (e : fs.lookup f = some v) (q : Q v H) : erfE K f Q (.ref a) H := ⟨a, C, dd, fs, v, rfl, h, T, n, h', e, q⟩
theorem r_isV {a C : Addr} {d : Option Addr} {c : V} {cv : Value} {b : Bool} (h : H a = some (ErO C d a)) (hd : ∀ dd, d = some dd → ∃ fs, H dd = some (.xd fs)) (E : ExcC K C) (k : ClsV c cv) (e : PySem.W.kitOne K (.ref C) cv = some b) (q : Q (.bl b) H) : rIsV K [.ref a, c] H Q := ⟨a, C, d, c, cv, b, rfl, h, hd, E, k, e, q⟩
/-- no dict -/
def AnyL (H : Hp) : V → Prop
  | .non => True
  | .bl _ => True
  | .int _ => True
  | .str _ => True
  | .ref a => (∃ xs, H a = some (.lst xs)) ∨ ∃ xs, H a = some (.tup xs)
  | _ => False
/-- a drawn plain value -/
structure PlainV (K : PySem.W.Frag) (H : Hp) (v : V) : Prop where
  dat : ∃ d, Dp K H v d ∧ d.plain = true ∧ d.depth ≤ 64
  any : AnyL H v
theorem AnyL.ty {v : V} (h : AnyL H v) : ∃ t, TyX K H v (.type t) ∧ t ∈ ["NoneType", "bool", "int", "str", "list", "tuple"] := by
  cases v with
  | non => exact ⟨_, .base .non, by simp⟩
  | bl b => exact ⟨_, .base (.bl b), by simp⟩
  | int i => exact ⟨_, .base (.int i), by simp⟩
  | str x => exact ⟨_, .base (.str x), by simp⟩
  | ref a =>
    rcases h with ⟨xs, h⟩ | ⟨xs, h⟩
    · exact ⟨_, .base (.lst h), by simp⟩
    · exact ⟨_, .base (.tup h), by simp⟩
  | _ => exact h.elim
theorem PlainV.isb {v : V} (h : PlainV K H v) : ∃ t b, TyX K H v (.type t) ∧ kitB t "bool" = some b := by
  obtain ⟨t, ty, ht⟩ := h.any.ty (K := K)
  simp only [List.mem_cons, List.not_mem_nil, or_false] at ht
  rcases ht with rfl | rfl | rfl | rfl | rfl | rfl
  all_goals first | exact ⟨_, true, ty, by decide +kernel⟩ | exact ⟨_, false, ty, by decide +kernel⟩
theorem PlainV.ist {v : V} (h : PlainV K H v) : ∃ t b, TyX K H v (.type t) ∧ kitB t "tuple" = some b := by
  obtain ⟨t, ty, ht⟩ := h.any.ty (K := K)
  simp only [List.mem_cons, List.not_mem_nil, or_false] at ht
  rcases ht with rfl | rfl | rfl | rfl | rfl | rfl
  all_goals first | exact ⟨_, true, ty, by decide +kernel⟩ | exact ⟨_, false, ty, by decide +kernel⟩
theorem tyx_same {H' : Hp} {v : V} {t : Value} (s : Same H H') (h : TyX K H v t) : TyX K H' v t := by
  cases h with
  | base b =>
    cases b with
    | non => exact .base .non
    | bl b => exact .base (.bl b)
    | int i => exact .base (.int i)
    | str x => exact .base (.str x)
    | flt x => exact .base (.flt x)
    | lst e => exact .base (.lst (s _ _ e))
    | frz e => exact .base (.frz (s _ _ e))
    | tup e => exact .base (.tup (s _ _ e))
    | dK e => exact .base (.dK (s _ _ e))
    | dT e => exact .base (.dT (s _ _ e))
    | ins e cl ha hn htk hm => exact .base (.ins (s _ _ e) cl ha hn htk hm)
  | byt b => exact .byt b
  | set e => exact .set (s _ _ e)
  | kList e c => exact .kList e c
  | kTuple e c => exact .kTuple e c
  | kDict e c => exact .kDict e c
  | fTuple e => exact .fTuple (s _ _ e)
  | fDict e => exact .fDict (s _ _ e)
theorem PlainV.same {H' : Hp} {v : V} (h : PlainV K H v) (s : Same H H') : PlainV K H' v := by
  obtain ⟨⟨d, a, b⟩, c⟩ := h
  refine ⟨⟨d, dp_same s a, b⟩, ?_⟩
  cases v with
  | ref a =>
    rcases c with ⟨xs, c⟩ | ⟨xs, c⟩
    · exact .inl ⟨xs, s _ _ c⟩
    · exact .inr ⟨xs, s _ _ c⟩
  | _ => exact c
theorem seqL_step {p c a : Addr} {H' : Hp} {xs : List V} (hp : PenAt H p c) (s : PenStep p c H H') (h : SqL K H a xs) : SqL K H' a xs := by
  rcases h with (h | ⟨o, h⟩) | h
  · exact .inl (.inl (s.at hp h rfl))
  · exact .inl (.inr ⟨o, s.at hp h rfl⟩)
  · exact .inr h
theorem seqT_step {p c a : Addr} {H' : Hp} {xs : List V} (hp : PenAt H p c) (s : PenStep p c H H') (h : SqT K H a xs) : SqT K H' a xs := by
  rcases h with (h | ⟨o, h⟩) | h
  · exact .inl (.inl (s.at hp h rfl))
  · exact .inl (.inr ⟨o, s.at hp h rfl⟩)
  · exact .inr h
mutual
theorem dp_step {p c : Addr} {H' : Hp} (hp : PenAt H p c) (s : PenStep p c H H') : ∀ {v : V} {d : PyData}, Dp K H v d → Dp K H' v d
  | _, _, .non => .non
  | _, _, .bl b => .bl b
  | _, _, .int i => .int i
  | _, _, .str x => .str x
  | _, _, .lst h k => .lst (seqL_step hp s h) (dps_step hp s k)
  | _, _, .tup h k => .tup (seqT_step hp s h) (dps_step hp s k)
theorem dps_step {p c : Addr} {H' : Hp} (hp : PenAt H p c) (s : PenStep p c H H') : ∀ {vs : List V} {ds : List PyData}, DpAll K H vs ds → DpAll K H' vs ds
  | _, _, .nil => .nil
  | _, _, .cons h k => .cons (dp_step hp s h) (dps_step hp s k)
end
theorem PlainV.step {p c : Addr} {H' : Hp} {v : V} (h : PlainV K H v) (hp : PenAt H p c) (s : PenStep p c H H') : PlainV K H' v := by
  obtain ⟨⟨d, a, b⟩, e⟩ := h
  refine ⟨⟨d, dp_step hp s a, b⟩, ?_⟩
  cases v with
  | ref a =>
    rcases e with ⟨xs, e⟩ | ⟨xs, e⟩
    · exact .inl ⟨xs, s.at hp e rfl⟩
    · exact .inr ⟨xs, s.at hp e rfl⟩
  | _ => exact e
end
def rStrI : List V → Hp → VK → Prop := fun xs H Q => ∃ i, xs = [.int i] ∧ i.natAbs.log2 < 1920 ∧ Q (.str (toString i)) H
theorem c_strI {X : Cx} : CallR X (.type "str") rStrI := call_str_int
theorem r_strI {H : Hp} {Q : VK} {i : Int} (h : i.natAbs.log2 < 1920) (q : Q (.str (toString i)) H) : rStrI [.int i] H Q := ⟨i, rfl, h, q⟩
theorem plain_lit {K : PySem.W.Frag} {H : Hp} {v : V} {d : PyData} (h : Dp K H v d) (p : d.plain = true) (z : d.depth ≤ 64) (a : AnyL H v) : PlainV K H v := ⟨⟨d, h, p, z⟩, a⟩
theorem r_cat {H : Hp} {Q : VK} {p q : Addr} {xs ys : List V} (h : H p = some (.lst xs)) (h' : H q = some (.lst ys)) (hz : xs.length + ys.length ≤ sizeLine) (k : ∀ r H', H r = none → Same H H' → H' r = some (.lst (xs ++ ys)) → Q (.ref r) H') : rCat (.ref p) (.ref q) H Q := ⟨p, q, xs, ys, rfl, rfl, h, h', hz, fun r n => k r _ n (same_new n) upd_same⟩
theorem dps_bl {K : PySem.W.Frag} {H : Hp} : ∀ (bs : List Bool), DpAll K H (bs.map V.bl) (bs.map PySem.W.Datum.toD)
  | [] => .nil
  | b :: bs => .cons (.bl b) (dps_bl bs)
theorem r_neBE {K : PySem.W.Frag} {H : Hp} {Q : VK} {p q : Addr} {xs ys : List V} (bs : List Bool) (h : H p = some (.lst xs)) (h' : H q = some (.lst ys)) (e : xs = bs.map V.bl) (e' : ys = bs.map V.bl) (k : Q (.bl false) H) : rNeP K (.ref p) (.ref q) H Q := by
  subst e e'
  refine r_neT (α := List Bool) bs bs (.lst (SqL.of h) (dps_bl bs)) (.lst (SqL.of h') (dps_bl bs)) ?_
  simpa using k
end Wm
namespace Wm
open PySem L2 PySem.Spec
open PyProof.Rows hiding St
def rSplit : V → List V → Hp → VK → Prop := fun x xs H Q => ∃ a b, x = .str a ∧ xs = [.str b] ∧ (b.length == 0) = false ∧ a.length + 2 ≤ sizeLine ∧ rNewStrs (Txt.split a b) H Q
theorem mtSplit {X : Cx} : MtR X "str.split" rSplit := mt_split
def rJoin (K : PySem.W.Frag) : V → List V → Hp → VK → Prop := fun x xs H Q => ∃ a p, ∃ ys : List Str, x = .str a ∧ xs = [.ref p] ∧ (SqL K H p (ys.map V.str) ∨ SqT K H p (ys.map V.str)) ∧ (ys.map (·.length)).sum + ys.length * a.length ≤ 16777216 ∧ Q (.str (Txt.join a ys)) H
theorem mtJoin {X : Cx} : MtR X "str.join" (rJoin X.K) := mt_join
section
variable {D : Ends} {σ : St} {H : Hp} {Q : VK} {K : PySem.W.Frag}
theorem r_split {a b : Str} (hb : (b.length == 0) = false) (hz : a.length + 2 ≤ sizeLine) (k : ∀ p H', H p = none → Same H H' → H' p = some (.lst ((Txt.split a b).map V.str)) → Q (.ref p) H') : rSplit (.str a) [.str b] H Q :=
  ⟨a, b, rfl, rfl, hb, hz, fun p n => k p _ n (same_new n) upd_same⟩
theorem r_join {a : Str} {p : Addr} {xs : List V} (ys : List Str) (h : H p = some (.lst xs)) (e : xs = ys.map V.str) (hz : (ys.map (·.length)).sum + ys.length * a.length ≤ 16777216) (q : Q (.str (Txt.join a ys)) H) : rJoin K (.str a) [.ref p] H Q :=
  ⟨a, p, ys, rfl, rfl, .inl (e ▸ SqL.of h), hz, q⟩
theorem r_tyS {x : Str} {R : Prop} (q : R) : tyV K "str" (.str x) H ∧ R := ⟨rfl, q⟩
theorem r_slT {p : Addr} {xs : List V} {lo hi : Option Int} (h : SqT K H p xs) (hw : ¬ (HT.sIx xs.length 0 lo = 0 ∧ HT.sIx xs.length xs.length hi = xs.length)) (k : ∀ q H', H q = none → Same H H' → H' q = some (.tup (cutV xs lo hi)) → Q (.ref q) H') : slEnd (rSlT K) Q (.ref p) lo hi H := ⟨p, xs, rfl, h, hw, fun q n => k q _ n (same_new n) upd_same⟩
theorem r_slS {z : Str} {lo hi : Option Int} (hz : z.length ≤ sizeLine) (q : Q (.str (cutS z lo hi)) H) : slEnd rSlS Q (.str z) lo hi H := ⟨z, rfl, hz, q⟩
/-! f-strings -/
def fmtEnd (Q : VK) : VK := fun x H1 => (∃ y : Str, x = .str y ∧ y.length ≤ sizeLine ∧ Q (.str y) H1) ∨ ∃ i : Int, x = .int i ∧ i.natAbs.log2 < 1920 ∧ Q (.str (toString i)) H1
theorem r_fmt {te : TE} (h : te σ H (fmtEnd Q)) : tFmt te σ H Q := h
theorem r_fmtS {y : Str} (hz : y.length ≤ sizeLine) (q : Q (.str y) H) : fmtEnd Q (.str y) H := .inl ⟨y, rfl, hz, q⟩
def tJoin (ts : List TE) : TE := fun σ H Q => tJs ts Str.empty σ H fun out H1 => Q (.str out) H1
theorem pe_joinedD {X : Cx} {v1 v2 : Expr} {rest : List Expr} {ts : List TE} {pos : Pos} (h : PJ X (v1 :: v2 :: rest) ts) : PE X (.JoinedStr (v1 :: v2 :: rest) pos) (tJoin ts) := pe_joined h
def jsOut (Q : VK) : Str → Hp → Prop := fun out H1 => Q (.str out) H1
def jsEnd (ts : List TE) (acc : Str) (σ : St) (R : Str → Hp → Prop) : VK := fun x H1 => ∃ y : Str, x = .str y ∧ (acc ++ y).length ≤ sizeLine ∧ tJs ts (acc ++ y) σ H1 R
theorem r_joinF {ts : List TE} (h : tJs ts Str.empty σ H (jsOut Q)) : tJoin ts σ H Q := h
theorem r_js0 {acc : Str} (q : Q (.str acc) H) : tJs [] acc σ H (jsOut Q) := q
theorem r_jsC {t : TE} {ts : List TE} {acc : Str} {R : Str → Hp → Prop} (h : t σ H (jsEnd ts acc σ R)) : tJs (t :: ts) acc σ H R := h
theorem r_jsE {ts : List TE} {acc y : Str} {R : Str → Hp → Prop} (hz : (acc ++ y).length ≤ sizeLine) (h : tJs ts (acc ++ y) σ H R) : jsEnd ts acc σ R (.str y) H := ⟨y, rfl, hz, h⟩
/-! str(o) by an own __str__ -/
def strBk (Q : VK) : VK := fun v H' => (∃ y, v = .str y) ∧ Q v H'
def rStrOwn (C : Addr) (sp : Sp) (E : XK) : List V → Hp → VK → Prop := fun xs H Q => ∃ a dx fs, xs = [.ref a] ∧ H a = some (.ins C dx fs) ∧ sp [.ref a] H (strBk Q) E
theorem c_strOwn {X : Cx} {CX : CXT} {C f : Addr} {fd : FuncData} {ps : List Str} {k : Nat} {sp : Sp} {E : XK} (F : FnOk X.prog X.w X.K X.mg X.base CX k f fd ps sp) (hr : Room (k + 2) X.A) (hm : Meth X.K C "__str__" f) (hb : Binds X.K fd ps []) (hx : Passes CX X E) : CallR X (.type "str") (rStrOwn C sp E) := by
  intro pins s σ H xs us Q I r h
  obtain ⟨a, dx, fs, rfl, ha, q⟩ := h
  obtain ⟨u, rfl, ru⟩ := vals1 r
  cases ru
  obtain ⟨mA, J, _⟩ := ins_get I.hok ha
  obtain ⟨od, J, _⟩ := J.look
  have hr2 : Room k X.A.in1.in1 := (hr.in1).in1
  refine PySem.W.kso_call hr2.units0 I.kIn J hm.at_ hm.fn ?_
  have hl : [Value.ref a].length = ps.length := F.len _ _ _ _ q
  refine wpAny_call (codeAny_mono (F.run X.A.in1.in1 X.stack s H ⟨[.ref a], []⟩ [.ref a] [.ref a] (strBk Q) E hr2 I.env0.in1.in1 (by have := hb s [.ref a] I.kIn (by rw [List.append_nil]; exact hl); rwa [List.append_nil] at this) (.cons rfl .nil) q) fun r s' hq => ?_)
  cases r with
  | error e => exact hx pins σ H s e s' I hq
  | ok fl =>
    cases fl with
    | ret u =>
      obtain ⟨v, H', I', rv, ⟨y, rfl⟩, q'⟩ := I.after hq
      obtain ⟨t, rfl⟩ := rv
      exact ⟨V.str y, H', I', ⟨t, rfl⟩, q'⟩
    | next => exact False.elim hq
    | brk => exact False.elim hq
    | cont => exact False.elim hq
theorem r_strOwn {a C dx : Addr} {fs : List (Str × V)} {sp : Sp} {E : XK} (h : H a = some (.ins C dx fs)) (q : sp [.ref a] H (strBk Q) E) : rStrOwn C sp E [.ref a] H Q := ⟨a, dx, fs, rfl, h, q⟩
theorem r_strBk {y : Str} (q : Q (.str y) H) : strBk Q (.str y) H := ⟨⟨y, rfl⟩, q⟩
/-! comprehensions whose elements are new objects -/
def hid (D : Addr) (H : Hp) : Hp := fun b => if b = D then none else H b
theorem hid_at {D b : Addr} {o : HO} (n : b ≠ D) (e : H b = some o) : hid D H b = some o := by
  unfold hid
  rw [if_neg n]
  exact e
theorem hid_get {D b : Addr} {o : HO} (e : hid D H b = some o) : b ≠ D ∧ H b = some o := by
  unfold hid at e
  by_cases h : b = D
  · rw [if_pos h] at e
    cases e
  · rw [if_neg h] at e
    exact ⟨h, e⟩
inductive All2 {α β : Type} (R : α → β → Prop) : List α → List β → Prop
  | nil : All2 R [] []
  | cons {a : α} {b : β} {l : List α} {m : List β} (h : R a b) (t : All2 R l m) : All2 R (a :: l) (b :: m)
theorem All2.mono {α β : Type} {R S : α → β → Prop} (hm : ∀ a b, R a b → S a b) : ∀ {l : List α} {m : List β}, All2 R l m → All2 S l m
  | _, _, .nil => .nil
  | _, _, .cons h t => .cons (hm _ _ h) (t.mono hm)
theorem All2.snoc {α β : Type} {R : α → β → Prop} {a : α} {b : β} (h : R a b) : ∀ {l : List α} {m : List β}, All2 R l m → All2 R (l ++ [a]) (m ++ [b])
  | _, _, .nil => .cons h .nil
  | _, _, .cons h' t => .cons h' (t.snoc h)
theorem All2.len {α β : Type} {R : α → β → Prop} : ∀ {l : List α} {m : List β}, All2 R l m → l.length = m.length
  | _, _, .nil => rfl
  | _, _, .cons _ t => by simp [t.len]
theorem All2.left {α β : Type} {R : α → β → Prop} : ∀ {l : List α} {m : List β} {i : Nat} {a : α}, All2 R l m → l[i]? = some a → ∃ b, m[i]? = some b ∧ R a b
  | _, _, i, a, .nil, h => by simp at h
  | _, _, 0, a, .cons h t, e => by
    cases e
    exact ⟨_, rfl, h⟩
  | _, _, i + 1, a, .cons h t, e => t.left (i := i) e
theorem All2.right {α β : Type} {R : α → β → Prop} : ∀ {l : List α} {m : List β} {i : Nat} {b : β}, All2 R l m → m[i]? = some b → ∃ a, l[i]? = some a ∧ R a b
  | _, _, i, a, .nil, h => by simp at h
  | _, _, 0, a, .cons h t, e => by
    cases e
    exact ⟨_, rfl, h⟩
  | _, _, i + 1, a, .cons h t, e => t.right (i := i) e
/-- what a turn gives: a y with R x y, over a heap in which the new list's own place is hidden -/
def LcGrow (tt : TT) (te : TE) (i : Nat) (σ : St) (H1 : Hp) (D : Addr) (p : V → Bool) (Rl : V → V → Hp → Prop) (x : V) : Prop :=
  (∀ (H' : Hp) (R : Bool → Hp → Prop), Same H1 H' → R (p x) H' → tt ((wipe σ [i]).set i (some x)) H' R) ∧ ∀ (H' : Hp) (R : VK) (acc : List V), p x = true → Same H1 H' → H' D = some (.lst acc) → (∀ y H'', Same H' H'' → Rl x y (hid D H'') → R y H'') → te ((wipe σ [i]).set i (some x)) H' R
theorem lc_grow {tt : TT} {te : TE} {i : Nat} {H1 H' : Hp} {p : V → Bool} {Rl : V → V → Hp → Prop} {xs acc : List V} {x : V} {j : Nat} {D : Addr} (hst : ∀ x y G G', Rl x y G → (∀ b o, G b = some o → G' b = some o) → Rl x y G') (hz : xs.length ≤ sizeLine) (hD : H1 D = none) (hj : xs[j]? = some x) (t : LcGrow tt te i σ H1 D p Rl x) (s : Same H1 H') (e : H' D = some (.lst acc)) (hr : All2 (fun x y => Rl x y (hid D H')) ((xs.take j).filter p) acc) :
    gName i x (wipe σ [i]) H' fun σ2 H2 => wipe σ2 [i] = wipe σ [i] ∧ tt σ2 H2 fun b H3 => if b = true then te σ2 H3 fun y H4 => ∃ acc, H4 D = some (.lst acc) ∧ acc.length < sizeLine ∧ (Same H1 (upd H4 D (.lst (acc ++ [y]))) ∧ ∃ ys, upd H4 D (.lst (acc ++ [y])) D = some (.lst ys) ∧ All2 (fun u v => Rl u v (hid D (upd H4 D (.lst (acc ++ [y]))))) ((xs.take (j + 1)).filter p) ys) else Same H1 H3 ∧ ∃ ys, H3 D = some (.lst ys) ∧ All2 (fun x y => Rl x y (hid D H3)) ((xs.take (j + 1)).filter p) ys := by
  refine ⟨wipe_set1, t.1 H' _ s ?_⟩
  cases hp : p x with
  | true =>
    refine iteT (t.2 H' _ acc hp s e fun y H'' s' hy => ⟨acc, s' _ _ e, ?_, same_put (s.trans s') hD, _, upd_same, ?_⟩)
    · rw [← hr.len]
      exact Nat.lt_of_lt_of_le (len_filt hj) hz
    · rw [take_more hj, List.filter_append]
      rw [show [x].filter p = [x] from by simp [hp]]
      have up : ∀ (G : Hp), (∀ b o, G b = some o → b ≠ D ∧ H'' b = some o) → ∀ b o, G b = some o → hid D (upd H'' D (.lst (acc ++ [y]))) b = some o := fun G hG b o z => by
        obtain ⟨n, z'⟩ := hG b o z
        refine hid_at n ?_
        rw [upd_ne n]
        exact z'
      refine All2.snoc (R := fun u v => Rl u v (hid D (upd H'' D (.lst (acc ++ [y]))))) (hst _ _ _ _ hy (up _ fun b o z => hid_get z)) (hr.mono fun a b z => hst _ _ _ _ z (up _ fun b o z => ⟨(hid_get z).1, s' _ _ (hid_get z).2⟩))
  | false =>
    refine iteF ⟨s, acc, e, ?_⟩
    rw [take_more hj, List.filter_append, show [x].filter p = [] from by simp [hp], List.append_nil]
    exact hr
theorem r_lcLG {tt : TT} {te : TE} {i : Nat} {a : Addr} {xs : List V} (p : V → Bool) (Rl : V → V → Hp → Prop) (hst : ∀ x y G G', Rl x y G → (∀ b o, G b = some o → G' b = some o) → Rl x y G') (hS : SqL K H a xs) (hz : xs.length ≤ sizeLine) (ht : ∀ (D : Addr) (j : Nat) (x : V), H D = none → xs[j]? = some x → LcGrow tt te i σ H D p Rl x)
    (k : ∀ q ys H', H q = none → Same H H' → H' q = some (.lst ys) → All2 (fun x y => Rl x y H') (xs.filter p) ys → Q (.ref q) H') : lcEnd (gName i) tt te [i] σ Q (Itl K a) H := fun D hD =>
  lc_list (K := K) (a := a) (xs := xs) (fun j H' => Same H H' ∧ ∃ ys, H' D = some (.lst ys) ∧ All2 (fun x y => Rl x y (hid D H')) ((xs.take j).filter p) ys) ⟨same_new hD, [], upd_same, .nil⟩ (fun j H' _ h => h.1.seq hS) (fun j x H' hj h => by
      obtain ⟨s, ys, e, hr⟩ := h
      exact lc_grow hst hz hD hj (ht D j x hD hj) s e hr)
    fun H' h => by
      obtain ⟨s, ys, e, hr⟩ := h
      refine k D ys H' hD s e ?_
      rw [List.take_length] at hr
      exact hr.mono fun a b z => hst _ _ _ _ z fun b o z => (hid_get z).2
theorem r_lcRG {tt : TT} {te : TE} {i : Nat} {lo : Int} {n : Nat} (p : V → Bool) (Rl : V → V → Hp → Prop) (hst : ∀ x y G G', Rl x y G → (∀ b o, G b = some o → G' b = some o) → Rl x y G') (hz : n ≤ sizeLine) (ht : ∀ (D : Addr) (j : Nat), H D = none → j < n → LcGrow tt te i σ H D p Rl (.int (lo + (j : Int))))
    (k : ∀ q ys H', H q = none → Same H H' → H' q = some (.lst ys) → All2 (fun x y => Rl x y H') ((vInts lo n).filter p) ys → Q (.ref q) H') : lcEnd (gName i) tt te [i] σ Q (Itr lo n) H := fun D hD =>
  lc_range (lo := lo) (n := n) (fun j H' => Same H H' ∧ ∃ ys, H' D = some (.lst ys) ∧ All2 (fun x y => Rl x y (hid D H')) (((vInts lo n).take j).filter p) ys) ⟨same_new hD, [], upd_same, .nil⟩ (fun j H' hj h => by
      obtain ⟨s, ys, e, hr⟩ := h
      exact lc_grow (xs := vInts lo n) hst (by rw [ints_len]; exact hz) hD (ints_at hj) (ht D j hD hj) s e hr)
    fun H' h => by
      obtain ⟨s, ys, e, hr⟩ := h
      refine k D ys H' hD s e ?_
      have e2 : (vInts lo n).take n = vInts lo n := List.take_of_length_le (by rw [ints_len]; exact Nat.le_refl n)
      rw [e2] at hr
      exact hr.mono fun a b z => hst _ _ _ _ z fun b o z => (hid_get z).2
end
/-! a classmethod's call in a try -/
section
open ClX
variable {X : Cx} {CX : CXT} {k : Nat} {C p g : Addr} {mc : Value} {sp : Sp} {o e : Expr} {es : List Expr} {m : Str} {pos apos : Pos} {ta : TE} {t : TA} {pl : Sem Bool}
def tCMethT (C : Addr) (sp : Sp) (E : St → XK) (ta : TE) (t : TA) : TE := fun σ H Q => ta σ H fun x H1 => x = .ref C ∧ t σ H1 fun vs H2 => sp (.ref C :: vs) H2 Q (E σ)
theorem run_cmT {pins : List (Addr × Obj)} {σ : St} {H : Hp} {s : Shared} {q : Addr} {E : XK} {Q : VK} {us : List Value} {vs : List V} (F : FnR X.prog X.w X.K X.mg X.base CX k g sp) (hr : Room k X.A) (hx : PassesAt CX X σ E) (I : Inv X ((q, PySem.W.methodObj (.ref g) (.ref C)) :: pins) σ H s)
    (r : Vals vs us) (h : sp (.ref C :: vs) H Q E) : wpAny (model X.prog X.w) X.A (call (.ref q) us) (EP X pins σ Q) X.xe s := by
  have z : wpAny (model X.prog X.w) X.A (call (.ref q) us) (EP X ((q, PySem.W.methodObj (.ref g) (.ref C)) :: pins) σ Q) X.xe s :=
    wpAny_call (PySem.W.method_call (pin_at I) (run_fnRT (us := .ref C :: us) (vs := .ref C :: vs) F hr hx I (.cons rfl r) h))
  exact thn z fun _ _ y => unpinE y
theorem pe_cmethT {E : St → XK} (he : PE X o ta) (r : CRead X.K C mc) (c : CMet X.K C mc m p g) (F : FnR X.prog X.w X.K X.mg X.base CX k g sp) (hr : Room k X.A) (hx : ∀ σ, PassesAt CX X σ (E σ)) (ha : PA X (e :: es) t)
    (hst : starEach (e :: es) X.env = (false, eval e X.env) :: starEach es X.env := by rfl) (hpl : (backTo pos (starEach es X.env)).any (·.1) = false := by rfl)
    (ht : eval (.Call (.Attribute o m apos) (e :: es) [] pos) X.env = (do
      let ov ← eval o X.env
      standAt apos.atName
      let (f, first) ← holding [ov] (getMethod ov m pl)
      callWith pos f first (backTo pos (starEach (e :: es) X.env)) (backToKw pos (keywordEach [] X.env))) := by rfl) :
    PE X (.Call (.Attribute o m apos) (e :: es) [] pos) (tCMethT C sp E ta t) := by
  refine ⟨fun pins s σ H Q I h => ?_⟩
  refine PySem.W.methodCall_KW (pl := pl) (thn (he.run pins s σ H _ I h) fun u s1 ⟨x, H1, I1, rx, ex, q⟩ => ?_) ht
  subst ex
  obtain rfl : u = Value.ref C := rx
  refine getmethcm_ok I1 r c fun s2 I2 => ?_
  refine callwith_cm I2 (base_none I1 (Nat.le_refl _)) c.fi (thn (ha.run pos _ s2 σ H1 _ I2 q) fun us s3 ⟨vs, H2, I3, rv, q2⟩ => ⟨⟨pin_at I3, I3.kIn⟩, ?_⟩) hst hpl
  exact run_cmT F hr (hx σ) I3 rv q2
theorem r_cmeth {σ : St} {H : Hp} {Q : VK} {E : XK} (h : ta σ H fun x H1 => x = .ref C ∧ t σ H1 fun vs H2 => sp (.ref C :: vs) H2 Q E) : tCMeth C sp E ta t σ H Q := h
theorem r_cmethT {σ : St} {H : Hp} {Q : VK} {E : St → XK} (h : ta σ H fun x H1 => x = .ref C ∧ t σ H1 fun vs H2 => sp (.ref C :: vs) H2 Q (E σ)) : tCMethT C sp E ta t σ H Q := h
theorem r_cmethK {C : Addr} {R : Prop} (q : R) : V.ref C = .ref C ∧ R := ⟨rfl, q⟩
end
/-! C(..) where a local name holds the class -/
section
variable {X : Cx} {CX : CXT} {k n : Nat} {f C : Addr} {fd : FuncData} {ps ks : List Str} {sp : Sp} {E : XK} {x : Str} {p pos : Pos} {e : Expr} {es : List Expr} {kws : List Keyword} {t tk : TA} {g : List Value → List Value → List Value} {gV : List V → List V → List V}
def tMakeKL (i : Nat) (C : Addr) (n m : Nat) (sp : Sp) (gV : List V → List V → List V) (E : XK) (t tk : TA) : TE := fun σ H Q => σ[i]? = some (some (.ref C)) ∧ tMakeK C n m sp gV E t tk σ H Q
theorem pe_makeKL {i : Nat} (M : Mk X.K C f) (F : FnOk X.prog X.w X.K X.mg X.base CX k f fd ps sp) (hr : Room (k + 1) X.A) (hN : X.N[i]? = some x) (hv : Vis X.env.scope x) (hb : KBn X.K fd ps (n + 1) ks g gV) (hx : Passes CX X E) (ha : PA X (e :: es) t) (hkw : PK X kws tk)
    (hall : (backToKw pos (keywordEach kws X.env)).all (·.1.isSome) = true := by rfl) (hks : (backToKw pos (keywordEach kws X.env)).filterMap (·.1) = ks := by rfl) (hdb : (x == ("__debug__" : Str)) = false := by decide) (hcd : (x == ("__classdict__" : Str)) = false := by decide)
    (he : starEach (e :: es) X.env = (false, eval e X.env) :: starEach es X.env := by rfl) (hpl : ((backTo pos (starEach (e :: es) X.env)).any (·.1) || (backToKw pos (keywordEach kws X.env)).any (·.1.isNone)) = false := by rfl) :
    PE X (.Call (.Name x p) (e :: es) kws pos) (tMakeKL i C n ks.length sp gV E t tk) := by
  refine ⟨fun pins s σ H Q I h => ?_⟩
  obtain ⟨hs, h⟩ := h
  refine wpAny_Call_Name_kw (thn ((pe_var (pos := p) hN hv hdb hcd).run pins s σ H (fun v H1 => v = .ref C ∧ H1 = H) I ⟨.ref C, hs, rfl, rfl⟩) fun u s1 ⟨v, H1, I1, r1, q1⟩ => ?_)
  obtain ⟨rfl, rfl⟩ := q1
  cases r1
  refine PySem.W.callWith_KW (h₀ := X.base) I.ok.mod.kin M.kp hall (thn (ha.run pos pins s1 σ _ _ I1 h) fun us s2 ⟨vs, H1, I1, r, q⟩ => ?_) hpl he
  refine thn (hkw.run pos pins s2 σ H1 _ I1 q) fun ws s3 ⟨zs, H2, I2, rz, l1, l2, q2⟩ => ⟨I2.kIn, ?_⟩
  rw [hks]
  exact run_makeK M F hr hb hx I2 r rz l1 l2 q2
theorem r_makeKL {σ : St} {H : Hp} {Q : VK} {i m : Nat} (hs : σ[i]? = some (some (.ref C))) (h : tMakeK C n m sp gV E t tk σ H Q) : tMakeKL i C n m sp gV E t tk σ H Q := ⟨hs, h⟩
end
theorem r_lenS {H : Hp} {Q : VK} {z : Str} (h : z.length ≤ sizeLine) (q : Q (.int z.length) H) : rLenS [.str z] H Q := ⟨z, rfl, h, q⟩
/-! x is None -/
def rIsNn : R2 := fun x y H Q => y = .non ∧ Q (.bl (decide (x = .non))) H
def rNotNn : R2 := fun x y H Q => y = .non ∧ Q (.bl (!decide (x = .non))) H
theorem op_isNn {X : Cx} : OpR X (compareOp .Is) rIsNn := op_isN
theorem op_notNn {X : Cx} : OpR X (compareOp .IsNot) rNotNn := op_notN
section
variable {H : Hp} {Q : VK}
theorem r_isNn {x : V} (q : Q (.bl (decide (x = .non))) H) : rIsNn x .non H Q := ⟨rfl, q⟩
theorem r_notNn {x : V} (q : Q (.bl (!decide (x = .non))) H) : rNotNn x .non H Q := ⟨rfl, q⟩
end
/-! lists of texts -/
theorem at0 {v : V} {l : List V} : atI (v :: l) 0 = some v := atI_nat (j := 0) rfl
theorem iteT' {b : Bool} {A B : Prop} (e : b = true) (h : A) : if b = true then A else B := by
  rw [if_pos e]
  exact h
theorem iteF' {b : Bool} {A B : Prop} (e : b = false) (h : B) : if b = true then A else B := by
  rw [e]
  exact iteF h
theorem str_ix {ss : List Str} {j : Nat} {x : V} (h : (ss.map V.str)[j]? = some x) : ∃ y, x = .str y ∧ ss[j]? = some y := by
  rw [List.getElem?_map] at h
  cases e : ss[j]? with
  | none =>
    rw [e] at h
    cases h
  | some u =>
    rw [e] at h
    exact ⟨u, (Option.some.inj h).symm, rfl⟩
theorem take_flat {α β : Type} {l : List α} {f : α → List β} {i : Nat} {x : α} (h : l[i]? = some x) : (l.take (i + 1)).flatMap f = (l.take i).flatMap f ++ f x := by
  rw [take_more h, List.flatMap_append]
  simp
theorem take_fold {α β : Type} {l : List α} {f : β → α → β} {b : β} {i : Nat} {x : α} (h : l[i]? = some x) : (l.take (i + 1)).foldl f b = f ((l.take i).foldl f b) x := by
  rw [take_more h, List.foldl_append]
  rfl
def liftS (g : Str → Str) : V → V
  | .str d => .str (g d)
  | v => v
theorem lift_map {g : Str → Str} {ss : List Str} : ((ss.map V.str).filter (fun _ => true)).map (liftS g) = (ss.map g).map V.str := by
  rw [filt_true, List.map_map, List.map_map]
  rfl
theorem all_len {l : List Str} {n : Nat} {x : Str} (h : l.all (fun y => decide (y.length ≤ n)) = true) (hx : x ∈ l) : x.length ≤ n := of_decide_eq_true (List.all_eq_true.mp h _ hx)
end Wm
namespace Wm
open PySem L2
def sp1 : Str := " "
def cm2 : Str := ", "
/-- the law's own list -/
def marksL : List Str := (["way", "lasting"] : List Str).flatMap fun w => (["same", "equal"] : List Str).flatMap fun o => (["ring", "skip", "refuse"] : List Str).map fun d => w ++ sp1 ++ o ++ sp1 ++ d
def keepsL : List Str := (["ahead", "behind"] : List Str).flatMap fun w => (["same", "equal"] : List Str).map fun o => w ++ sp1 ++ o
def everyL : List Str := [("none" : Str)] ++ (marksL.flatMap fun m => keepsL.map fun k => m ++ cm2 ++ k) ++ marksL ++ keepsL
/-- split_text in plain Lean: mark, by, act, keep, keep_by -/
def splitT (t : Str) : Option (Str × Str × Str × Str × Str) :=
  if t = "none" then some ("none", "same", "ring", "none", "same")
  else
    let ps := (Txt.split t cm2).map fun p => Txt.split p sp1
    let head : Option ((Str × Str × Str) × List (List Str)) := match ps with
      | [m, b, a] :: r => if (m = "way" ∨ m = "lasting") ∧ b ∈ BYl ∧ a ∈ ACTSl then some ((m, b, a), r) else none
      | l => some (("none", "same", "ring"), l)
    match head with
    | none => none
    | some ((m, b, a), l) =>
      match l with
      | [] => some (m, b, a, "none", "same")
      | [k, e] :: r => if (k = "ahead" ∨ k = "behind") ∧ e ∈ BYl then (if r = [] then some (m, b, a, k, e) else none) else none
      | _ => none
end Wm
namespace Wm
open PySem L2
theorem app_as {a b c : Str} : a ++ b ++ c = a ++ (b ++ c) := by
  apply Str.ext'
  apply Array.toList_inj.mp
  show ((a.cps ++ b.cps) ++ c.cps).toList = (a.cps ++ (b.cps ++ c.cps)).toList
  simp
theorem words3 {p m b a : Str} (h : Txt.split p sp1 = [m, b, a]) : p = m ++ sp1 ++ b ++ sp1 ++ a := by
  have j := StrLaws.join_split p sp1
  rw [h] at j
  rw [← j]
  show m ++ sp1 ++ (b ++ sp1 ++ a) = _
  simp only [app_as]
theorem words2 {p k e : Str} (h : Txt.split p sp1 = [k, e]) : p = k ++ sp1 ++ e := by
  have j := StrLaws.join_split p sp1
  rw [h] at j
  exact j.symm
theorem mem_marks {m b a : Str} (hm : m = "way" ∨ m = "lasting") (hb : b ∈ BYl) (ha : a ∈ ACTSl) : m ++ sp1 ++ b ++ sp1 ++ a ∈ marksL := by
  refine List.mem_flatMap.mpr ⟨m, by rcases hm with rfl | rfl <;> simp, List.mem_flatMap.mpr ⟨b, hb, List.mem_map.mpr ⟨a, ha, rfl⟩⟩⟩
theorem mem_keeps {k e : Str} (hk : k = "ahead" ∨ k = "behind") (he : e ∈ BYl) : k ++ sp1 ++ e ∈ keepsL := by
  refine List.mem_flatMap.mpr ⟨k, by rcases hk with rfl | rfl <;> simp, List.mem_map.mpr ⟨e, he, rfl⟩⟩
theorem in_every {t : Str} (h : t = "none" ∨ (∃ m k, m ∈ marksL ∧ k ∈ keepsL ∧ t = m ++ cm2 ++ k) ∨ t ∈ marksL ∨ t ∈ keepsL) : t ∈ everyL := by
  unfold everyL
  simp only [List.mem_append]
  rcases h with rfl | ⟨m, k, hm, hk, rfl⟩ | h | h
  · exact .inl (.inl (.inl (by simp)))
  · exact .inl (.inl (.inr (List.mem_flatMap.mpr ⟨m, hm, List.mem_map.mpr ⟨k, hk, rfl⟩⟩)))
  · exact .inl (.inr h)
  · exact .inr h
end Wm
namespace Wm
open PySem L2
theorem split_every {t : Str} {five : Str × Str × Str × Str × Str} (h : splitT t = some five) : t ∈ everyL := by
  refine in_every ?_
  by_cases h0 : t = "none"
  · exact .inl h0
  refine .inr ?_
  unfold splitT at h
  rw [if_neg h0] at h
  have j := StrLaws.join_split t cm2
  have hp := PyProof.Rows.split_pos t cm2
  cases hP : Txt.split t cm2 with
  | nil => rw [hP] at hp; simp at hp
  | cons p r =>
    rw [hP] at h j
    simp only [List.map_cons] at h
    have two : ∀ {q : Str} {k e : Str}, Txt.split q sp1 = [k, e] → (k = "ahead" ∨ k = "behind") ∧ e ∈ BYl → q ∈ keepsL := fun h1 h2 => by rw [words2 h1]; exact mem_keeps h2.1 h2.2
    have three : ∀ {q : Str} {m b a : Str}, Txt.split q sp1 = [m, b, a] → (m = "way" ∨ m = "lasting") ∧ b ∈ BYl ∧ a ∈ ACTSl → q ∈ marksL := fun h1 h2 => by rw [words3 h1]; exact mem_marks h2.1 h2.2.1 h2.2.2
    split at h
    · cases h
    · rename_i m b a l hh
      split at hh
      · rename_i m' b' a' r' hw
        obtain ⟨hw1, hw2⟩ := List.cons.inj hw
        split at hh
        · rename_i hc
          have hm := three hw1 hc
          cases hh
          subst hw2
          cases r with
          | nil => exact .inr (.inl (j ▸ hm))
          | cons q r2 =>
            simp only [List.map_cons] at h
            split at h
            · rename_i hq
              cases hq
            · rename_i k e r3 hq
              obtain ⟨hq1, hq2⟩ := List.cons.inj hq
              split at h
              · rename_i hc2
                split at h
                · rename_i hr
                  subst hq2
                  have hr2 : r2 = [] := List.map_eq_nil_iff.mp hr
                  subst hr2
                  exact .inl ⟨p, q, hm, two hq1 hc2, j.symm⟩
                · cases h
              · cases h
            · cases h
        · cases hh
      · cases hh
        split at h
        · rename_i hq
          cases hq
        · rename_i k e r3 hq
          obtain ⟨hq1, hq2⟩ := List.cons.inj hq
          split at h
          · rename_i hc2
            split at h
            · rename_i hr
              subst hq2
              have hr2 : r = [] := List.map_eq_nil_iff.mp hr
              subst hr2
              exact .inr (.inr (j ▸ two hq1 hc2))
            · cases h
          · cases h
        · cases h
end Wm
namespace Wm
open PySem L2
def tailT (m b a : Str) (l : List Str) : Option (Str × Str × Str × Str × Str) :=
  match l.map (fun p => Txt.split p sp1) with
  | [] => some (m, b, a, "none", "same")
  | [k, e] :: r => if (k = "ahead" ∨ k = "behind") ∧ e ∈ BYl then (if r = [] then some (m, b, a, k, e) else none) else none
  | _ => none
theorem splitT_head3 {x p m b a : Str} {r : List Str} (hx : ¬ x = "none") (h : Txt.split x cm2 = p :: r) (hp : Txt.split p sp1 = [m, b, a]) : splitT x = if (m = "way" ∨ m = "lasting") ∧ b ∈ BYl ∧ a ∈ ACTSl then tailT m b a r else none := by
  unfold splitT tailT
  rw [if_neg hx, h]
  simp only [List.map_cons, hp]
  split
  · rename_i h0
    split at h0
    · cases h0
    · rename_i hc
      rw [if_neg hc]
  · rename_i h0
    split at h0
    · rename_i hc
      cases h0
      rw [if_pos hc] <;> rfl
    · cases h0
theorem splitT_headN {x p : Str} {r : List Str} (hx : ¬ x = "none") (h : Txt.split x cm2 = p :: r) (hp : (Txt.split p sp1).length ≠ 3) : splitT x = tailT "none" "same" "ring" (p :: r) := by
  unfold splitT tailT
  rw [if_neg hx, h]
  simp only [List.map_cons]
  rcases hw : Txt.split p sp1 with _ | ⟨a0, _ | ⟨a1, _ | ⟨a2, _ | ⟨a3, l⟩⟩⟩⟩
  · rfl
  · rfl
  · rfl
  · rw [hw] at hp
    exact absurd rfl hp
  · rfl
theorem tail_nil {m b a : Str} : tailT m b a [] = some (m, b, a, (.ofString "none"), (.ofString "same")) := rfl
theorem tail_2 {m b a p k e : Str} {r : List Str} (hp : Txt.split p sp1 = [k, e]) : tailT m b a (p :: r) = if (k = "ahead" ∨ k = "behind") ∧ e ∈ BYl then (if r = [] then some (m, b, a, k, e) else none) else none := by
  unfold tailT
  simp only [List.map_cons, hp]
  cases r <;> simp
theorem tail_N {m b a p : Str} {r : List Str} (hp : (Txt.split p sp1).length ≠ 2) : tailT m b a (p :: r) = none := by
  unfold tailT
  simp only [List.map_cons]
  rcases hw : Txt.split p sp1 with _ | ⟨a0, _ | ⟨a1, _ | ⟨a2, l⟩⟩⟩
  · rfl
  · rfl
  · rw [hw] at hp
    exact absurd rfl hp
  · rfl
theorem cut_tail {v : V} {r : List V} : cutV (v :: r) (some 1) none = r := by
  unfold cutV
  rw [show (1 : Int) = ((1 : Nat) : Int) from rfl, HT.sIx_nat, HT.sIx_none]
  simp only [List.length_cons]
  rw [Nat.min_eq_left (by omega)]
  simp
/-- a list of texts, each split -/
def PartsAt (H : Hp) (L : Addr) (l : List Str) : Prop := ∃ ys, H L = some (.lst ys) ∧ All2 (fun (p : Str) (v : V) => ∃ a, v = V.ref a ∧ H a = some (.lst ((Txt.split p sp1).map V.str))) l ys
theorem len3 {α : Type} {l : List α} (h : l.length = 3) : ∃ a b c, l = [a, b, c] := by
  rcases l with _ | ⟨a, _ | ⟨b, _ | ⟨c, _ | ⟨d, l⟩⟩⟩⟩ <;> simp at h
  exact ⟨_, _, _, rfl⟩
theorem len2 {α : Type} {l : List α} (h : l.length = 2) : ∃ a b, l = [a, b] := by
  rcases l with _ | ⟨a, _ | ⟨b, _ | ⟨c, l⟩⟩⟩ <;> simp at h
  exact ⟨_, _, rfl⟩
theorem or_mem {k x y : Str} : (decide (k ∈ [x, y])) = decide (k = x ∨ k = y) := by simp
theorem pieces_of {H' : Hp} {ps : List Str} {ys : List V} (h : All2 (fun u v => ∃ (p : Str) (a : Addr), u = V.str p ∧ v = V.ref a ∧ H' a = some (.lst ((Txt.split p sp1).map V.str))) (ps.map V.str) ys) : All2 (fun (p : Str) (v : V) => ∃ a, v = V.ref a ∧ H' a = some (.lst ((Txt.split p sp1).map V.str))) ps ys := by
  induction ps generalizing ys with
  | nil => cases h; exact .nil
  | cons p ps ih =>
    cases h with
    | cons h t =>
      obtain ⟨q, a, e, e2, e3⟩ := h
      cases e
      exact .cons ⟨a, e2, e3⟩ (ih t)
theorem mem_join {sep : Str} : ∀ {ys : List Str} {y : Str}, y ∈ ys → y.length ≤ (Str.join sep ys).length := by
  intro ys
  induction ys with
  | nil => intro y h; cases h
  | cons a l ih =>
    intro y h
    cases l with
    | nil =>
      simp only [List.mem_cons, List.not_mem_nil, or_false] at h
      subst h
      exact Nat.le_refl _
    | cons b r =>
      show y.length ≤ (a ++ sep ++ Str.join sep (b :: r)).length
      rw [Str.length_append, Str.length_append]
      rcases List.mem_cons.mp h with rfl | h
      · omega
      · have := ih h
        omega
theorem piece_len {t sep y : Str} (h : y ∈ Txt.split t sep) : y.length ≤ t.length := by
  have z := mem_join (sep := sep) h
  rwa [StrLaws.join_split] at z
theorem PartsAt.same {H H' : Hp} {L : Addr} {l : List Str} (h : PartsAt H L l) (s : Same H H') : PartsAt H' L l := by
  obtain ⟨ys, e, h⟩ := h
  exact ⟨ys, s _ _ e, h.mono fun p v ⟨a, e1, e2⟩ => ⟨a, e1, s _ _ e2⟩⟩
end Wm
namespace Wm
open PySem L2
def top (i : Nat) : Stmt := PySem.Challenge.pw_walkmarks_k22_whole_guard_texts.main.body.getD i (.Pass ⟨0, 0, 0, 0⟩)
abbrev s_is_choice : Stmt := top 10
abbrev s_split_text : Stmt := top 12
abbrev s_Guard_init : Stmt := inClass (top 11) 1
abbrev s_Guard_read : Stmt := inClass (top 11) 2
abbrev s_Guard_eq : Stmt := inClass (top 11) 3
abbrev s_Guard_str : Stmt := inClass (top 11) 4
abbrev s_l_pen : Stmt := top 14
abbrev s_l_take : Stmt := top 15
abbrev s_l_bit : Stmt := top 16
abbrev s_l_every : Stmt := top 17
abbrev s_l_guard_of : Stmt := top 18
abbrev s_l_changed : Stmt := top 19
abbrev s_l_read : Stmt := top 20
abbrev s_law : Stmt := top 21
theorem sc_is_choice : FnScope ["thing", "choices"] ["thing", "choices"] (defScope s_is_choice) := ⟨rfl, rfl, rfl, by decide +kernel, rfl, by decide +kernel, by decide +kernel⟩
theorem sc_split_text : FnScope ["text", "parts", "part", "mark", "by", "act", "keep", "keep_by"] ["text"] (defScope s_split_text) := ⟨rfl, rfl, rfl, by decide +kernel, rfl, by decide +kernel, by decide +kernel⟩
theorem sc_Guard_init : FnScope ["self", "mark", "act", "by", "keep", "keep_by", "checked", "part", "value", "choices"] ["self", "mark", "act", "by", "keep", "keep_by"] (defScope s_Guard_init) := ⟨rfl, rfl, rfl, by decide +kernel, rfl, by decide +kernel, by decide +kernel⟩
theorem sc_Guard_read : FnScope ["cls", "text", "words", "mark", "by", "act", "keep", "keep_by"] ["cls", "text"] (defScope s_Guard_read) := ⟨rfl, rfl, rfl, by decide +kernel, rfl, by decide +kernel, by decide +kernel⟩
theorem sc_Guard_eq : FnScope ["self", "other"] ["self", "other"] (defScope s_Guard_eq) := ⟨rfl, rfl, rfl, by decide +kernel, rfl, by decide +kernel, by decide +kernel⟩
theorem sc_Guard_str : FnScope ["self", "parts"] ["self"] (defScope s_Guard_str) := ⟨rfl, rfl, rfl, by decide +kernel, rfl, by decide +kernel, by decide +kernel⟩
theorem sc_l_pen : FnScope ["_law_script", "_law_total", "_law_cell"] ["_law_script"] (defScope s_l_pen) := ⟨rfl, rfl, rfl, by decide +kernel, rfl, by decide +kernel, by decide +kernel⟩
theorem sc_l_take : FnScope ["_law_pen_here", "_law_bound", "_law_cell", "_law_mixed", "_law_digit"] ["_law_pen_here", "_law_bound"] (defScope s_l_take) := ⟨rfl, rfl, rfl, by decide +kernel, rfl, by decide +kernel, by decide +kernel⟩
theorem sc_l_bit : FnScope ["_law_pen_here", "_law_bound"] ["_law_pen_here", "_law_bound"] (defScope s_l_bit) := ⟨rfl, rfl, rfl, by decide +kernel, rfl, by decide +kernel, by decide +kernel⟩
theorem sc_l_every : FnScope ["_law_found", "_law_marks", "_law_keeps", "_law_word", "_law_other", "_law_deed", "_law_mine"] [] (defScope s_l_every) := ⟨rfl, rfl, rfl, by decide +kernel, rfl, by decide +kernel, by decide +kernel⟩
theorem sc_l_guard_of : FnScope ["_law_text", "_law_five", "_law_piece", "_law_words"] ["_law_text"] (defScope s_l_guard_of) := ⟨rfl, rfl, rfl, by decide +kernel, rfl, by decide +kernel, by decide +kernel⟩
theorem sc_l_changed : FnScope ["_law_pen_here", "_law_text", "_law_pieces", "_law_at", "_law_width"] ["_law_pen_here", "_law_text"] (defScope s_l_changed) := ⟨rfl, rfl, rfl, by decide +kernel, rfl, by decide +kernel, by decide +kernel⟩
theorem sc_l_read : FnScope ["_law_text", "_law_made", "e"] ["_law_text"] (defScope s_l_read) := ⟨rfl, rfl, rfl, by decide +kernel, rfl, by decide +kernel, by decide +kernel⟩
theorem sc_law : FnScope ["_law_script", "_law_pen_here", "_law_every_here", "_law_text", "_law_five", "_law_turn", "_law_other", "_law_k", "_law_odd"] ["_law_script"] (defScope s_law) := ⟨rfl, rfl, rfl, by decide +kernel, rfl, by decide +kernel, by decide +kernel⟩
abbrev s_BadGuard_init : Stmt := inClass (top 4) 0
abbrev s_BadText_init : Stmt := inClass (top 3) 0
structure Ad where
  (MARKS ACTS BY KEEPS BadGuard BadText Guard Guard_init is_choice split_text Guard_eq Guard_str l_pen l_take l_bit l_every l_guard_of l_changed l_read law Guard_read p_Guard_read : Addr)
  (fd_Guard_init fd_is_choice fd_split_text fd_Guard_eq fd_Guard_str fd_l_pen fd_l_take fd_l_bit fd_l_every fd_l_guard_of fd_l_changed fd_l_read fd_law fd_Guard_read : FuncData)
structure Txt (P : Program) (K : PySem.W.Frag) (mg : Str → Option Value) (ad : Ad) : Prop where
  n_len : mg "len" = none
  n_int : mg "int" = none
  n_list : mg "list" = none
  n_range : mg "range" = none
  n_isinstance : mg "isinstance" = none
  n_str : mg "str" = none
  c_MARKS : ∀ H, SqT K H ad.MARKS (MARKSl.map V.str)
  g_MARKS : mg "MARKS" = some (.ref ad.MARKS)
  c_ACTS : ∀ H, SqT K H ad.ACTS (ACTSl.map V.str)
  g_ACTS : mg "ACTS" = some (.ref ad.ACTS)
  c_BY : ∀ H, SqT K H ad.BY (BYl.map V.str)
  g_BY : mg "BY" = some (.ref ad.BY)
  c_KEEPS : ∀ H, SqT K H ad.KEEPS (KEEPSl.map V.str)
  g_KEEPS : mg "KEEPS" = some (.ref ad.KEEPS)
  g_BadGuard : mg "BadGuard" = some (.ref ad.BadGuard)
  er_BadGuard : ErC P K "BadGuard.__init__" ["part"] ad.BadGuard
  te_BadGuard : PySem.W.exmOne K (.ref ad.BadGuard) (.ref ad.BadGuard) = some true
  xf_BadGuard : XfC K ad.BadGuard
  no_BadGuard_part : PySem.W.findIn K (.ref ad.BadGuard) "part" = some none
  g_BadText : mg "BadText" = some (.ref ad.BadText)
  er_BadText : ErC P K "BadText.__init__" ["line"] ad.BadText
  te_BadText : PySem.W.exmOne K (.ref ad.BadText) (.ref ad.BadText) = some true
  xf_BadText : XfC K ad.BadText
  no_BadText_line : PySem.W.findIn K (.ref ad.BadText) "line" = some none
  g_Guard : mg "Guard" = some (.ref ad.Guard)
  ow_Guard : OwnC K ad.Guard
  no_Guard_mark : NoAttr K ad.Guard "mark"
  no_Guard_act : NoAttr K ad.Guard "act"
  no_Guard_by : NoAttr K ad.Guard "by"
  no_Guard_keep : NoAttr K ad.Guard "keep"
  no_Guard_keep_by : NoAttr K ad.Guard "keep_by"
  nf_Guard : ∀ t, t ∈ ["NoneType", "bool", "int", "str", "list", "tuple", "dict"] → PySem.W.notFirst K ad.Guard (.type t) = true
  nfo_Guard : PySem.W.notFirst K ad.Guard (.ref ad.Guard) = true
  F_Guard_init : FunD K "__init__" "Guard.__init__" (defArgs s_Guard_init) (defBody s_Guard_init) (defScope s_Guard_init) [.str "none"] [("act", .str "ring"), ("by", .str "same"), ("keep", .str "none"), ("keep_by", .str "same")] ad.Guard_init ad.fd_Guard_init
  g_is_choice : mg "is_choice" = some (.ref ad.is_choice)
  F_is_choice : Fun K "is_choice" "is_choice" s_is_choice ad.is_choice ad.fd_is_choice
  b_is_choice : Binds K ad.fd_is_choice ["thing", "choices"] []
  g_split_text : mg "split_text" = some (.ref ad.split_text)
  F_split_text : Fun K "split_text" "split_text" s_split_text ad.split_text ad.fd_split_text
  b_split_text : Binds K ad.fd_split_text ["text"] []
  F_Guard_eq : Fun K "__eq__" "Guard.__eq__" s_Guard_eq ad.Guard_eq ad.fd_Guard_eq
  b_Guard_eq : Binds K ad.fd_Guard_eq ["self", "other"] []
  me_Guard_eq : Meth K ad.Guard "__eq__" ad.Guard_eq
  F_Guard_str : Fun K "__str__" "Guard.__str__" s_Guard_str ad.Guard_str ad.fd_Guard_str
  b_Guard_str : Binds K ad.fd_Guard_str ["self"] []
  me_Guard_str : Meth K ad.Guard "__str__" ad.Guard_str
  g_l_pen : mg "_law_pen" = some (.ref ad.l_pen)
  F_l_pen : Fun K "_law_pen" "_law_pen" s_l_pen ad.l_pen ad.fd_l_pen
  b_l_pen : Binds K ad.fd_l_pen ["_law_script"] []
  g_l_take : mg "_law_take" = some (.ref ad.l_take)
  F_l_take : Fun K "_law_take" "_law_take" s_l_take ad.l_take ad.fd_l_take
  b_l_take : Binds K ad.fd_l_take ["_law_pen_here", "_law_bound"] []
  g_l_bit : mg "_law_bit" = some (.ref ad.l_bit)
  F_l_bit : Fun K "_law_bit" "_law_bit" s_l_bit ad.l_bit ad.fd_l_bit
  b_l_bit : Binds K ad.fd_l_bit ["_law_pen_here", "_law_bound"] []
  g_l_every : mg "_law_every" = some (.ref ad.l_every)
  F_l_every : Fun K "_law_every" "_law_every" s_l_every ad.l_every ad.fd_l_every
  b_l_every : Binds K ad.fd_l_every [] []
  g_l_guard_of : mg "_law_guard_of" = some (.ref ad.l_guard_of)
  F_l_guard_of : Fun K "_law_guard_of" "_law_guard_of" s_l_guard_of ad.l_guard_of ad.fd_l_guard_of
  b_l_guard_of : Binds K ad.fd_l_guard_of ["_law_text"] []
  g_l_changed : mg "_law_changed" = some (.ref ad.l_changed)
  F_l_changed : Fun K "_law_changed" "_law_changed" s_l_changed ad.l_changed ad.fd_l_changed
  b_l_changed : Binds K ad.fd_l_changed ["_law_pen_here", "_law_text"] []
  g_l_read : mg "_law_read" = some (.ref ad.l_read)
  F_l_read : Fun K "_law_read" "_law_read" s_l_read ad.l_read ad.fd_l_read
  b_l_read : Binds K ad.fd_l_read ["_law_text"] []
  F_law : Fun K "law" "law" s_law ad.law ad.fd_law
  F_Guard_read : Fun K "read" "Guard.read" s_Guard_read ad.Guard_read ad.fd_Guard_read
  b_Guard_read : Binds K ad.fd_Guard_read ["cls", "text"] []
  cr_Guard : ClX.CRead K ad.Guard (.type "type")
  cm_Guard_read : ClX.CMet K ad.Guard (.type "type") "read" ad.p_Guard_read ad.Guard_read
  mk_Guard : Mk K ad.Guard ad.Guard_init
abbrev spInit (ad : Ad) : Sp := spInitG ad.Guard ad.BadGuard
abbrev spEq (ad : Ad) : Sp := spEqG ad.Guard
abbrev GI (K : PySem.W.Frag) (f : Addr) (fd : FuncData) := FunD K "__init__" "Guard.__init__" (defArgs s_Guard_init) (defBody s_Guard_init) (defScope s_Guard_init) [.str "none"] [("act", .str "ring"), ("by", .str "same"), ("keep", .str "none"), ("keep_by", .str "same")] f fd
abbrev ips : List Str := ["self", "mark", "act", "by", "keep", "keep_by"]
theorem kb_all (F : GI K f fd) : ∃ g, KBn K fd ips 2 ["act", "by", "keep", "keep_by"] g (fun vs zs => vs ++ zs) := by
  obtain ⟨its, mv, h⟩ := F.kbinds (ps := ips) 2 ["act", "by", "keep", "keep_by"] [] (fun us _ _ ws => us ++ ws) (by simp) (by simp) (by simp) (fun r1 _ _ r4 => r1.append r4)
    (fun T D doc pm an cdv ct us its mv ws l1 l2 l3 l4 => match us, its, mv, ws, l1, l2, l3, l4 with
      | [_, _], [_], [], [_, _, _, _], _, _, _, _ => ⟨_, rfl, rfl⟩)
  exact ⟨_, h⟩

abbrev F5 := Str × Str × Str × Str × Str
/-- mark, by, act, keep, keep_by -/
def rdT (v : V) : Option F5 := match v with
  | .str t => splitT t
  | _ => none
def spSplit : Sp := fun vs H Q _ => ∃ v, vs = [v] ∧ AnyV H v ∧ (∀ t, v = .str t → t.length ≤ 1000000) ∧ (rdT v = none → ∀ H', Same H H' → Q .non H') ∧
  ∀ m b a k e, rdT v = some (m, b, a, k, e) → ∀ r H', Same H H' → H r = none → H' r = some (.tup [.str m, .str b, .str a, .str k, .str e]) → Q (.ref r) H'
def spRead (ad : Ad) : Sp := fun vs H Q E => ∃ v, vs = [.ref ad.Guard, v] ∧ AnyV H v ∧ (∀ t, v = .str t → t.length ≤ 1000000) ∧ (rdT v = none → ∀ d H', Same H H' → H d = none → H' d = some (.xd [("line", .int 0)]) → E (.ref ad.BadText) (some d) H') ∧
  ∀ m b a k e, rdT v = some (m, b, a, k, e) → ∀ g dx H', Same H H' → H g = none → H' g = some (.ins ad.Guard dx (gfs (plain5 m a b k e))) → Q (.ref g) H'
def strT (m b a k e : Str) : Str :=
  if m = "none" then (if k = "none" then "none" else Txt.join ", " [Str.empty ++ k ++ " " ++ e])
  else (if k = "none" then Txt.join ", " [Str.empty ++ m ++ " " ++ b ++ " " ++ a] else Txt.join ", " [Str.empty ++ m ++ " " ++ b ++ " " ++ a, Str.empty ++ k ++ " " ++ e])
def strL (l : List Str) : Str := strT (l.getD 0 "") (l.getD 2 "") (l.getD 1 "") (l.getD 3 "") (l.getD 4 "")
def spStr (ad : Ad) : Sp := fun vs H Q _ => ∃ (a dx : Addr) (m t b k e : Str), vs = [.ref a] ∧ H a = some (.ins ad.Guard dx (gfs [m, t, b, k, e])) ∧ (m.length ≤ 10 ∧ t.length ≤ 10 ∧ b.length ≤ 10 ∧ k.length ≤ 10 ∧ e.length ≤ 10) ∧ ∀ H', Same H H' → Q (.str (strT m b t k e)) H'
def spEvery : Sp := fun vs H Q _ => vs = [] ∧ ∀ r H', Same H H' → H r = none → H' r = some (.lst (everyL.map V.str)) → Q (.ref r) H'
/-- mark, act, by, keep, keep_by -/
def gstep (f : F5) (p : Str) : F5 := match Txt.split p " ", f with
  | [x, y, z], (_, _, _, k, e) => (x, z, y, k, e)
  | [x, y], (m, a, b, _, _) => (m, a, b, x, y)
  | _, f => f
def l5 : F5 → List Str := fun (m, a, b, k, e) => [m, a, b, k, e]
def guardF (t : Str) : F5 := (Txt.split t ", ").foldl gstep ("none", "ring", "same", "none", "same")
def guardOf (t : Str) : List Str := l5 (guardF t)
def spGuardOf : Sp := fun vs H Q _ => ∃ t, vs = [.str t] ∧ t.length ≤ 1000000 ∧ ∀ r H', Same H H' → H r = none → H' r = some (.lst ((guardOf t).map V.str)) → Q (.ref r) H'
def spChanged : Sp := fun vs H Q _ => ∃ (p c : Addr) (t : Str), vs = [.ref p, .str t] ∧ PenAt H p c ∧ t.length ≤ 1000 ∧ ∀ t' H', PenStep p c H H' → t'.length ≤ 2 * t.length + 20 → Q (.str t') H'
def spLRead : Sp := fun vs H Q _ => ∃ v, vs = [v] ∧ AnyV H v ∧ (∀ t, v = .str t → t.length ≤ 1000000) ∧ (rdT v = none → ∀ r H', Same H H' → H r = none → H' r = some (.lst [.str "bad", .int 0]) → Q (.ref r) H') ∧
  ∀ m b a k e, rdT v = some (m, b, a, k, e) → ∀ r H', Same H H' → H r = none → H' r = some (.lst ((plain5 m a b k e ++ [strL (plain5 m a b k e)]).map V.str)) → Q (.ref r) H'
end Wm
namespace Wm
open PySem L2
instance decOk5 {m a b k e : Str} : Decidable (Ok5 m a b k e) := by unfold Ok5; infer_instance
/-! plain laws -/
theorem split_ok {t m b a k e : Str} (h : splitT t = some (m, b, a, k, e)) : Ok5 m a b k e := by
  unfold splitT at h
  by_cases h0 : t = "none"
  · rw [if_pos h0] at h
    cases h
    exact (by decide)
  rw [if_neg h0] at h
  dsimp only at h
  have hm : ∀ {m : Str}, m = "way" ∨ m = "lasting" → m ∈ MARKSl := fun h => by rcases h with rfl | rfl <;> decide
  have hk : ∀ {m : Str}, m = "ahead" ∨ m = "behind" → m ∈ KEEPSl := fun h => by rcases h with rfl | rfl <;> decide
  split at h
  · cases h
  · rename_i m0 b0 a0 l hh
    have h3 : m0 ∈ MARKSl ∧ a0 ∈ ACTSl ∧ b0 ∈ BYl := by
      split at hh
      · split at hh
        · rename_i hc
          cases hh
          exact ⟨hm hc.1, hc.2.2, hc.2.1⟩
        · cases hh
      · cases hh
        decide
    split at h
    · cases h
      exact ⟨h3.1, h3.2.1, h3.2.2, by decide, by decide⟩
    · split at h
      · rename_i hc
        split at h
        · cases h
          exact ⟨h3.1, h3.2.1, h3.2.2, hk hc.1, hc.2⟩
        · cases h
      · cases h
    · cases h
theorem ok_short {m a b k e : Str} (h : Ok5 m a b k e) : m.length ≤ 10 ∧ a.length ≤ 10 ∧ b.length ≤ 10 ∧ k.length ≤ 10 ∧ e.length ≤ 10 := by
  obtain ⟨h1, h2, h3, h4, h5⟩ := h
  have q : ∀ {l : List Str} {x : Str}, l.all (fun y => decide (y.length ≤ 10)) = true → x ∈ l → x.length ≤ 10 := fun hl hx => of_decide_eq_true (List.all_eq_true.mp hl _ hx)
  exact ⟨q (by decide) h1, q (by decide) h2, q (by decide) h3, q (by decide) h4, q (by decide) h5⟩
theorem ok_plain {m a b k e : Str} (h : Ok5 m a b k e) : ∃ m' a' b' k' e', plain5 m a b k e = [m', a', b', k', e'] ∧ Ok5 m' a' b' k' e' := by
  refine ⟨_, _, _, _, _, rfl, h.1, ?_, ?_, h.2.2.2.1, ?_⟩
  · split
    · decide
    · exact h.2.1
  · split
    · decide
    · exact h.2.2.1
  · split
    · decide
    · exact h.2.2.2.2
def chkE (t : Str) : Bool := match guardF t with
  | (m, a, b, k, e) => decide (splitT t = some (m, b, a, k, e)) && decide (plain5 m a b k e = [m, a, b, k, e]) && decide (strT m b a k e = t) && decide (t.length ≤ 40) && decide (Ok5 m a b k e)

theorem every_chk : everyL.all chkE = true := by decide +kernel
theorem every_facts {t : Str} (h : t ∈ everyL) : ∃ m a b k e, guardOf t = [m, a, b, k, e] ∧ splitT t = some (m, b, a, k, e) ∧ plain5 m a b k e = [m, a, b, k, e] ∧ strT m b a k e = t ∧ t.length ≤ 40 ∧ Ok5 m a b k e := by
  have z := List.all_eq_true.mp every_chk t h
  unfold chkE at z
  unfold guardOf
  rcases hg : guardF t with ⟨m, a, b, k, e⟩
  rw [hg] at z
  simp only [Bool.and_eq_true, decide_eq_true_eq] at z
  exact ⟨m, a, b, k, e, rfl, z.1.1.1.1, z.1.1.1.2, z.1.1.2, z.1.2, z.2⟩
theorem rd_every {t : Str} : t ∈ everyL ↔ ∃ f, splitT t = some f := by
  constructor
  · intro h
    obtain ⟨m, a, b, k, e, _, h2, _⟩ := every_facts h
    exact ⟨_, h2⟩
  · rintro ⟨f, h⟩
    exact split_every h
end Wm
local macro_rules | `(tactic| walk_at "w_ne") => `(tactic| first
  | with_reducible assumption
  | ((with_reducible refine' Ne.symm ?h1); (case h1 => with_reducible assumption))
  | ((with_reducible refine' L2.ne_of_none ?h1 ?h2); (case h2 => with_reducible assumption); (case h1 => walk_at "w_hp"))
  | ((with_reducible refine' Ne.symm (L2.ne_of_none ?h1 ?h2)); (case h2 => with_reducible assumption); (case h1 => walk_at "w_hp"))
  | exact L2.ne_of (by with_reducible assumption) (by with_reducible assumption) (by intro z; cases z)
  | fail "no way")
local macro_rules | `(tactic| walk_at "w_pen") => `(tactic| first
  | with_reducible assumption
  | ((with_reducible refine' Wm.PenStep.pen ?h1); (case h1 => with_reducible assumption))
  | ((with_reducible refine' Wm.PenAt.same ?h1 ?h2); (case h2 => ((with_reducible refine' Wm.same_new ?h9); (case h9 => with_reducible assumption))); (case h1 => walk_at "w_pen"))
  | ((with_reducible refine' Wm.PenAt.same ?h1 ?h2); (case h2 => with_reducible assumption); (case h1 => walk_at "w_pen"))
  | ((with_reducible refine' Wm.PenAt.put ?h1 ?h2); (case h2 => walk_at "w_pne"); (case h1 => walk_at "w_pen"))
  | fail "no way")
local macro_rules | `(tactic| walk_at "w_pne") => `(tactic| first
  | with_reducible assumption
  | ((with_reducible refine' Wm.PenAt.ne_new ?h1 ?h2); (case h2 => with_reducible assumption); (case h1 => walk_at "w_pen"))
  | ((with_reducible refine' Wm.PenAt.ne_new ?h1 ?h2); (case h1 => with_reducible assumption); (case h2 => walk_at "w_fr"))
  | fail "no way")
local macro_rules | `(tactic| walk_at "w_fr") => `(tactic| first
  | with_reducible assumption
  | ((with_reducible refine' Wm.PenStep.free ?h1 ?h2); (case h2 => with_reducible assumption); (case h1 => walk_at "w_step"))
  | fail "no way")
local macro_rules | `(tactic| walk_at "w_step") => `(tactic| first
  | with_reducible assumption
  | ((with_reducible refine' Wm.PenStep.refl ?h1); (case h1 => walk_at "w_pen"))
  | ((with_reducible refine' Wm.PenStep.same ?h1 ?h2); (case h2 => ((with_reducible refine' Wm.same_new ?h9); (case h9 => with_reducible assumption))); (case h1 => walk_at "w_step"))
  | ((with_reducible refine' Wm.PenStep.trans ?h1 ?h2); (case h2 => with_reducible assumption); (case h1 => walk_at "w_step"))
  | ((with_reducible refine' Wm.PenStep.same ?h1 ?h2); (case h2 => with_reducible assumption); (case h1 => walk_at "w_step"))
  | ((with_reducible refine' Wm.PenStep.put ?h1 ?h2 ?h3); (case h2 => walk_at "w_pen"); (case h3 => walk_at "w_fr"); (case h1 => walk_at "w_step"))
  | fail "no way")
local macro_rules | `(tactic| walk_at "w_frs") => `(tactic| first
  | with_reducible assumption
  | ((with_reducible refine' L2.Same.free ?h1 ?h2); (case h2 => with_reducible assumption); (case h1 => walk_at "w_same"))
  | fail "no way")
local macro_rules | `(tactic| walk_at "w_same") => `(tactic| first
  | with_reducible assumption
  | with_reducible exact L2.Same.refl _
  | ((with_reducible refine' Wm.same_put ?h1 ?h2); (case h2 => walk_at "w_frs"); (case h1 => walk_at "w_same"))
  | ((with_reducible refine' L2.Same.trans ?h1 ?h2); (case h2 => with_reducible assumption); (case h1 => walk_at "w_same"))
  | fail "no way")
local macro_rules | `(tactic| walk_at "w_hp") => `(tactic| first
  | with_reducible assumption
  | with_reducible exact L2.upd_same
  | ((with_reducible refine Eq.trans (L2.upd_ne ?_) ?_); (walk_at "w_ne"); (walk_at "w_hp"))
  | ((with_reducible refine' Wm.Same.at ?h1 ?h2); (case h1 => with_reducible assumption); (case h2 => walk_at "w_hp"))
  | ((with_reducible refine' Wm.PenStep.at ?h1 ?h2 ?h4 ?h3); (case h1 => with_reducible assumption); (case h2 => walk_at "w_pen"); (case h4 => walk_at "w_hp"); (case h3 => rfl))
  | ((with_reducible refine' Wm.PenStep.atd ?h1 ?h4 ?h3); (case h1 => with_reducible assumption); (case h4 => walk_at "w_hp"); (case h3 => walk_at "w_ne"))
  | fail "no way")
local macro_rules | `(tactic| walk_at "w_sz") => `(tactic| first
  | (rw [PySem.sizeLine_eq]; exact (by decide))
  | (rw [PySem.sizeLine_eq]; simp only [List.length_map, List.length_cons, List.length_nil, List.length_append, List.length_set] at *; omega)
  | exact Wm.sl6 _ _ _ _ _ _
  | fail "no way")
local macro_rules | `(tactic| walk_at "w_side") => `(tactic| first
  | rfl
  | assumption
  | omega
  | (refine ⟨?_, ?_⟩ <;> (walk_at "w_side"))
  | decide
  | fail "no way")
local macro_rules | `(tactic| walk_at "w_val") => `(tactic| first
  | exact Wm.pk_get_cells _ _ _ _ _ _ | exact Wm.pk_get_at _ _ _ _ _ _ | exact Wm.pk_get_rest _ _ _ _ _ _ | exact Wm.pk_get_digits _ _ _ _ _ _ | exact Wm.pk_get_mix _ _ _ _ _ _ | exact Wm.pk_get_turn _ _ _ _ _ _
  | rfl
  | fail "no way")
local macro_rules | `(tactic| walk_at "w_put") => `(tactic| first
  | exact Wm.pk_put_at _ _ _ _ _ _ _ | exact Wm.pk_put_rest _ _ _ _ _ _ _ | exact Wm.pk_put_digits _ _ _ _ _ _ _ | exact Wm.pk_put_mix _ _ _ _ _ _ _ | exact Wm.pk_put_turn _ _ _ _ _ _ _
  | rfl
  | fail "no way")
local macro_rules | `(tactic| walk_at "w_putf") => `(tactic| rfl)
local macro_rules | `(tactic| walk_at "w_d") => `(tactic| (refine Wm.r_dispE _ _ (by walk_at "w_hp") (by rfl) (by first | decide | simp) (by rfl) ?_))
local macro_rules | `(tactic| walk_at "w_len") => `(tactic| first
  | (rw [PySem.sizeLine_eq]; simp only [PySem.Str.length_append] at *; (try simp only [show (PySem.Str.ofString " ").length = 1 from rfl, show (PySem.Str.ofString ", ").length = 2 from rfl, show PySem.Str.empty.length = 0 from rfl]); omega)
  | fail "no way")
local macro_rules | `(tactic| walk_at "w_x") => `(tactic| first
  | ((with_reducible refine' Wm.r_split ?h1 ?h2 ?_); (case h1 => rfl); (case h2 => (rw [PySem.sizeLine_eq]; omega)); (intro q H' nq sq eq))
  | with_reducible refine Wm.r_tyS ?_
  | ((with_reducible refine' Wm.r_slT ?h1 ?h2 ?_); (case h1 => first | (refine L2.SqT.of ?_; walk_at "w_hp") | assumption); (case h2 => decide); (intro q H' nq sq eq))
  | ((with_reducible refine' Wm.r_slS ?h1 ?_); (case h1 => (rw [PySem.sizeLine_eq]; omega)))
  | with_reducible refine Wm.r_fmt ?_
  | ((with_reducible refine' Wm.r_fmtS ?h1 ?_); (case h1 => (rw [PySem.sizeLine_eq]; omega)))
  | with_reducible refine Wm.r_joinF ?_
  | with_reducible refine Wm.r_js0 ?_
  | with_reducible refine Wm.r_jsC ?_
  | ((with_reducible refine' Wm.r_jsE ?h1 ?_); (case h1 => walk_at "w_len"))
  | with_reducible refine Wm.r_strBk ?_
  | ((with_reducible refine' Wm.r_addS ?h1 ?_); (case h1 => walk_at "w_len"))
  | with_reducible refine Wm.r_isNn ?_
  | ((with_reducible refine' Wm.r_lenS ?h1 ?_); (case h1 => (rw [PySem.sizeLine_eq]; omega)))
  | with_reducible refine Wm.r_notNn ?_
  | with_reducible refine Wm.r_cmeth ?_
  | with_reducible refine Wm.r_cmethT ?_
  | with_reducible refine Wm.r_cmethK ?_
  | ((with_reducible refine' Wm.r_makeKL ?h1 ?_); (case h1 => rfl))
  | fail "no way")
local macro_rules | `(tactic| walk_at "w_s") => `(tactic| first
  | with_reducible refine L2.iteT ?_
  | with_reducible refine L2.iteF ?_
  | with_reducible refine Wm.iteNF ?_
  | with_reducible refine Wm.iteNT ?_
  | with_reducible refine Wm.r_seq ?_
  | with_reducible refine Wm.r_next ?_
  | with_reducible refine Wm.r_asg ?_
  | ((with_reducible refine' Wm.r_gname ?h1 ?_); (case h1 => (simp only [List.set_cons_succ, List.set_cons_zero]; rfl)))
  | with_reducible refine Wm.r_ret ?_
  | with_reducible refine Wm.r_drop ?_
  | with_reducible refine Wm.r_ifs ?_
  | ((with_reducible refine' Wm.r_var ?h1 ?_); (case h1 => rfl))
  | with_reducible refine Wm.r_c ?_
  | with_reducible refine Wm.r_op ?_
  | with_reducible refine Wm.r_i0 ?_
  | ((with_reducible refine' Wm.r_i ?h1 ?_); (case h1 => walk_at "w_arith"))
  | with_reducible refine Wm.r_eqi ?_
  | with_reducible refine Wm.r_eqs ?_
  | with_reducible refine Wm.r_eqb ?_
  | with_reducible refine Wm.r_nei ?_
  | with_reducible refine Wm.r_nes ?_
  | with_reducible refine Wm.r_neb ?_
  | with_reducible refine Wm.r_test ?_
  | with_reducible refine Wm.r_tb ?_
  | with_reducible refine Wm.r_bl ?_
  | with_reducible refine Wm.r_and ?_
  | with_reducible refine Wm.r_or ?_
  | with_reducible refine Wm.r_not ?_
  | with_reducible refine Wm.r_andV ?_
  | with_reducible refine Wm.r_orV ?_
  | with_reducible refine Wm.r_notV ?_
  | with_reducible refine Wm.r_if ?_
  | with_reducible refine Wm.r_nil ?_
  | with_reducible refine Wm.r_cons ?_
  | with_reducible refine Wm.r_cb ?_
  | with_reducible refine Wm.r_call ?_
  | with_reducible refine Wm.r_dget ?_
  | with_reducible refine Wm.r_dput ?_
  | with_reducible refine Wm.r_int1 ?_
  | with_reducible refine Wm.r_lst ?_
  | ((with_reducible refine' Wm.r_lstE ?h1 ?_); (case h1 => walk_at "w_sz"); (intro q H' nq sq eq))
  | ((with_reducible refine' Wm.r_tupE ?h1 ?_); (case h1 => walk_at "w_sz"); (intro q H' nq sq eq))
  | with_reducible refine Wm.r_tup ?_
  | with_reducible refine Wm.r_for ?_
  | with_reducible refine Wm.r_il ?_
  | with_reducible refine Wm.r_it ?_
  | with_reducible refine Wm.r_rng1 ?_
  | ((with_reducible refine Wm.r_disp ?_); (intro q H' nq sq eq))
  | with_reducible refine Wm.r_pc ?_
  | with_reducible refine Wm.r_pn ?_
  | with_reducible refine Wm.r_un ?_
  | ((with_reducible refine' Wm.r_cat ?h1 ?h2 ?h3 ?_); (case h1 => walk_at "w_hp"); (case h2 => walk_at "w_hp"); (case h3 => walk_at "w_sz"); (intro q H' nq sq eq))
  | with_reducible refine Wm.r_erV ?_
  | ((with_reducible refine' Wm.r_erVE ?h1 ?h2 ?h3 ?_); (case h1 => rfl); (case h2 => exact Nat.le_of_ble_eq_true rfl); (case h3 => (intro z; cases z)); (intro a d H' na sa ea ed))
  | ((with_reducible refine Wm.r_erVE0 ?_); (intro a H' na sa ea))
  | with_reducible refine Wm.r_erF ?_
  | ((with_reducible refine' Wm.r_erFK ?h1 ?h2 ?h3 ?h4 ?h5 ?_); (case h1 => walk_at "w_hp"); (case h4 => walk_at "w_hp"); (case h2 => assumption); (case h3 => assumption); (case h5 => rfl))
  | with_reducible refine Wm.r_slice ?_
  | with_reducible refine Wm.r_nopart ?_
  | with_reducible refine Wm.r_part ?_
  | with_reducible refine Wm.r_partI ?_
  | ((with_reducible refine' Wm.r_slL ?h1 ?_); (case h1 => walk_at "w_hp"); (intro q H' nq sq eq))
  | with_reducible refine Wm.r_meth ?_
  | with_reducible refine Wm.r_methT ?_
  | ((with_reducible refine' Wm.r_methK ?h1 ?h2 ?_); (case h1 => walk_at "w_hp"); (case h2 => rfl))
  | with_reducible refine Wm.r_lc ?_
  | ((with_reducible refine' Wm.r_addS ?h1 ?_); (case h1 => walk_at "w_sz"))
  | with_reducible refine Wm.r_cval ?_
  | ((with_reducible refine' Wm.r_cvalK ?h1 ?h2 ?_); (case h1 => assumption); (case h2 => assumption))
  | ((with_reducible refine' Wm.r_glst ?h1 ?h2 ?_); (case h1 => walk_at "w_hp"); (case h2 => rfl))
  | with_reducible refine Wm.r_makeKS ?_
  | with_reducible refine Wm.r_makeK ?_
  | with_reducible refine Wm.r_make ?_
  | with_reducible refine Wm.r_mkQ ?_
  | ((with_reducible refine' Wm.r_mkE ?h1 ?h2 ?_); (case h1 => rfl); (case h2 => rfl); (intro x dx H' nx sx ex))
  | ((with_reducible refine Wm.r_mk1E ?_); (intro x dx H' nx sx ex))
  | with_reducible refine Wm.r_xf ?_
  | ((with_reducible refine' Wm.r_xfK ?h1 ?h2 ?_); (case h1 => walk_at "w_hp"); (case h2 => rfl))
  | with_reducible refine Wm.r_raiseEr ?_
  | with_reducible refine Wm.r_erE0 ?_
  | ((with_reducible refine' Wm.r_erE ?h1 ?h2 ?h3 ?_); (case h1 => rfl); (case h2 => exact Nat.le_of_ble_eq_true rfl); (case h3 => (intro z; cases z)); (intro q H' nq sq eq))
  | with_reducible refine Wm.r_neg ?_
  | ((with_reducible refine Wm.r_dnew ?_); (intro q H' nq sq eq))
  | with_reducible refine Wm.r_fld ?_
  | with_reducible refine Wm.r_fldS ?_
  | with_reducible refine Wm.r_gsub ?_
  | with_reducible refine Wm.r_gcons ?_
  | with_reducible refine Wm.r_gnil ?_
  | with_reducible refine Wm.r_bm ?_
  | with_reducible refine Wm.r_bm0 ?_
  | ((with_reducible refine' Wm.r_fldK ?h1 ?h2 ?h3 ?h4 ?_); (case h1 => walk_at "w_hp"); (case h2 => assumption); (case h3 => assumption); (case h4 => rfl))
  | ((with_reducible refine' Wm.r_fldP ?h1 ?h2 ?h3 ?h4 ?h5 ?_); (case h1 => walk_at "w_hp"); (case h2 => assumption); (case h3 => assumption); (case h4 => exact Nat.le_of_ble_eq_true rfl); (case h5 => walk_at "w_putf"))
  | ((with_reducible refine' Wm.r_setL ?h1 ?h2 ?h3 ?_); (case h1 => walk_at "w_hp"); (case h2 => rfl); (case h3 => (simp only [Int.reduceToNat, Int.toNat_one, Int.toNat_zero, List.set_cons_succ, List.set_cons_zero]; rfl)))
  | ((with_reducible refine' Wm.r_gtupK ?h1 ?h2 ?_); (case h1 => walk_at "w_hp"); (case h2 => rfl))
  | ((with_reducible refine' Wm.r_tyLK ?h1 ?_); (case h1 => walk_at "w_hp"))
  | ((with_reducible refine' Wm.r_append ?h1 ?h2 ?_); (case h1 => walk_at "w_hp"); (case h2 => walk_at "w_sz"))
  | ((with_reducible refine' Wm.r_listLK ?h1 ?_); (case h1 => walk_at "w_hp"); (intro q H' nq sq eq))
  | ((with_reducible refine' Wm.r_ixLK ?h1 ?h2 ?_); (case h1 => walk_at "w_hp"); (case h2 => rfl))
  | ((with_reducible refine' Wm.r_dgetK ?h1 ?h2 ?_); (case h1 => walk_at "w_hp"); (case h2 => walk_at "w_val"))
  | ((with_reducible refine' Wm.r_dputU ?h1 ?h2 ?_); (case h1 => walk_at "w_put"); (case h2 => walk_at "w_sz"))
  | ((with_reducible refine' Wm.r_dputK ?h1 ?h2 ?h3 ?_); (case h1 => walk_at "w_hp"); (case h2 => walk_at "w_put"); (case h3 => walk_at "w_sz"))
  | ((with_reducible refine' Wm.r_lenK ?h1 ?_); (case h1 => walk_at "w_hp"))
  | walk_at "w_x"
  | fail "no way")
local macro_rules | `(tactic| walk_at "w_arith") => `(tactic| first
  | assumption
  | exact Wm.pow18
  | exact Wm.wide100 (by assumption) (by assumption)
  | omega
  | exact Or.inr ⟨by decide, by decide⟩
  | exact Or.inl ⟨by omega, by omega⟩
  | exact ⟨by decide, by decide⟩
  | exact ⟨by decide, by decide, by decide⟩
  | fail "no way")
local macro_rules | `(tactic| walk_at "w_go") => `(tactic| repeat walk_at "w_s")
local macro_rules | `(tactic| walk_at "w_br") => `(tactic| ((with_reducible refine Wm.ite_and (fun hbr => ?_) (fun hbr => ?_)) <;> (try simp only [decide_eq_true_eq, decide_eq_false_iff_not, Bool.not_eq_true', Bool.not_eq_false', bne_iff_ne, Bool.not_eq_true, Bool.not_eq_false] at hbr)))
local macro_rules | `(tactic| walk_at "w_leaf") => `(tactic| first
  | k_is
  | kit_is
  | ks_is
  | kx_is
  | rfl
  | decide +kernel
  | fail "no leaf")
local macro_rules | `(tactic| walk_at "w_rel") => `(tactic| first
  | exact ⟨_, rfl⟩
  | exact rfl
  | fail "no way")
local macro_rules | `(tactic| walk_at "w_vals") => `(tactic| (repeat (first | exact PySem.Paired.nil | refine PySem.Paired.cons ⟨_, rfl⟩ ?_ | refine PySem.Paired.cons rfl ?_)))
local macro_rules | `(tactic| walk_at "w_sp") => `(tactic| first
  | with_reducible refine L2.iteT ?_
  | with_reducible refine L2.iteF ?_
  | with_reducible refine Wm.iteNF ?_
  | with_reducible refine Wm.iteNT ?_
  | with_reducible refine Wm.r_seq ?_
  | with_reducible refine Wm.r_next ?_
  | with_reducible refine Wm.r_asg ?_
  | ((with_reducible refine' Wm.r_gname ?h1 ?_); (case h1 => (simp only [List.set_cons_succ, List.set_cons_zero]; rfl)))
  | with_reducible refine Wm.r_ret ?_
  | with_reducible refine Wm.r_drop ?_
  | with_reducible refine Wm.r_ifs ?_
  | ((with_reducible refine' Wm.r_var ?h1 ?_); (case h1 => rfl))
  | with_reducible refine Wm.r_c ?_
  | with_reducible refine Wm.r_op ?_
  | with_reducible refine Wm.r_i0 ?_
  | ((with_reducible refine' Wm.r_i ?h1 ?_); (case h1 => walk_at "w_arith"))
  | with_reducible refine Wm.r_eqi ?_
  | with_reducible refine Wm.r_eqs ?_
  | with_reducible refine Wm.r_eqb ?_
  | with_reducible refine Wm.r_nei ?_
  | with_reducible refine Wm.r_nes ?_
  | with_reducible refine Wm.r_neb ?_
  | with_reducible refine Wm.r_test ?_
  | with_reducible refine Wm.r_tb ?_
  | with_reducible refine Wm.r_bl ?_
  | with_reducible refine Wm.r_not ?_
  | with_reducible refine Wm.r_notV ?_
  | with_reducible refine Wm.r_if ?_
  | with_reducible refine Wm.r_nil ?_
  | with_reducible refine Wm.r_cons ?_
  | with_reducible refine Wm.r_cb ?_
  | with_reducible refine Wm.r_call ?_
  | with_reducible refine Wm.r_dget ?_
  | with_reducible refine Wm.r_dput ?_
  | with_reducible refine Wm.r_int1 ?_
  | with_reducible refine Wm.r_lst ?_
  | ((with_reducible refine' Wm.r_lstE ?h1 ?_); (case h1 => walk_at "w_sz"); (intro q H' nq sq eq))
  | ((with_reducible refine' Wm.r_tupE ?h1 ?_); (case h1 => walk_at "w_sz"); (intro q H' nq sq eq))
  | with_reducible refine Wm.r_tup ?_
  | with_reducible refine Wm.r_for ?_
  | with_reducible refine Wm.r_il ?_
  | with_reducible refine Wm.r_it ?_
  | with_reducible refine Wm.r_rng1 ?_
  | ((with_reducible refine Wm.r_disp ?_); (intro q H' nq sq eq))
  | with_reducible refine Wm.r_pc ?_
  | with_reducible refine Wm.r_pn ?_
  | with_reducible refine Wm.r_un ?_
  | ((with_reducible refine' Wm.r_cat ?h1 ?h2 ?h3 ?_); (case h1 => walk_at "w_hp"); (case h2 => walk_at "w_hp"); (case h3 => walk_at "w_sz"); (intro q H' nq sq eq))
  | with_reducible refine Wm.r_erV ?_
  | ((with_reducible refine' Wm.r_erVE ?h1 ?h2 ?h3 ?_); (case h1 => rfl); (case h2 => exact Nat.le_of_ble_eq_true rfl); (case h3 => (intro z; cases z)); (intro a d H' na sa ea ed))
  | ((with_reducible refine Wm.r_erVE0 ?_); (intro a H' na sa ea))
  | with_reducible refine Wm.r_erF ?_
  | ((with_reducible refine' Wm.r_erFK ?h1 ?h2 ?h3 ?h4 ?h5 ?_); (case h1 => walk_at "w_hp"); (case h4 => walk_at "w_hp"); (case h2 => assumption); (case h3 => assumption); (case h5 => rfl))
  | with_reducible refine Wm.r_slice ?_
  | with_reducible refine Wm.r_nopart ?_
  | with_reducible refine Wm.r_part ?_
  | with_reducible refine Wm.r_partI ?_
  | ((with_reducible refine' Wm.r_slL ?h1 ?_); (case h1 => walk_at "w_hp"); (intro q H' nq sq eq))
  | with_reducible refine Wm.r_meth ?_
  | with_reducible refine Wm.r_methT ?_
  | ((with_reducible refine' Wm.r_methK ?h1 ?h2 ?_); (case h1 => walk_at "w_hp"); (case h2 => rfl))
  | with_reducible refine Wm.r_lc ?_
  | ((with_reducible refine' Wm.r_addS ?h1 ?_); (case h1 => walk_at "w_sz"))
  | with_reducible refine Wm.r_cval ?_
  | ((with_reducible refine' Wm.r_cvalK ?h1 ?h2 ?_); (case h1 => assumption); (case h2 => assumption))
  | ((with_reducible refine' Wm.r_glst ?h1 ?h2 ?_); (case h1 => walk_at "w_hp"); (case h2 => rfl))
  | with_reducible refine Wm.r_makeKS ?_
  | with_reducible refine Wm.r_makeK ?_
  | with_reducible refine Wm.r_make ?_
  | with_reducible refine Wm.r_mkQ ?_
  | ((with_reducible refine' Wm.r_mkE ?h1 ?h2 ?_); (case h1 => rfl); (case h2 => rfl); (intro x dx H' nx sx ex))
  | ((with_reducible refine Wm.r_mk1E ?_); (intro x dx H' nx sx ex))
  | with_reducible refine Wm.r_xf ?_
  | ((with_reducible refine' Wm.r_xfK ?h1 ?h2 ?_); (case h1 => walk_at "w_hp"); (case h2 => rfl))
  | with_reducible refine Wm.r_raiseEr ?_
  | with_reducible refine Wm.r_erE0 ?_
  | ((with_reducible refine' Wm.r_erE ?h1 ?h2 ?h3 ?_); (case h1 => rfl); (case h2 => exact Nat.le_of_ble_eq_true rfl); (case h3 => (intro z; cases z)); (intro q H' nq sq eq))
  | with_reducible refine Wm.r_neg ?_
  | ((with_reducible refine Wm.r_dnew ?_); (intro q H' nq sq eq))
  | with_reducible refine Wm.r_fld ?_
  | with_reducible refine Wm.r_fldS ?_
  | with_reducible refine Wm.r_gsub ?_
  | with_reducible refine Wm.r_gcons ?_
  | with_reducible refine Wm.r_gnil ?_
  | with_reducible refine Wm.r_bm ?_
  | with_reducible refine Wm.r_bm0 ?_
  | ((with_reducible refine' Wm.r_fldK ?h1 ?h2 ?h3 ?h4 ?_); (case h1 => walk_at "w_hp"); (case h2 => assumption); (case h3 => assumption); (case h4 => rfl))
  | ((with_reducible refine' Wm.r_fldP ?h1 ?h2 ?h3 ?h4 ?h5 ?_); (case h1 => walk_at "w_hp"); (case h2 => assumption); (case h3 => assumption); (case h4 => exact Nat.le_of_ble_eq_true rfl); (case h5 => walk_at "w_putf"))
  | ((with_reducible refine' Wm.r_setL ?h1 ?h2 ?h3 ?_); (case h1 => walk_at "w_hp"); (case h2 => rfl); (case h3 => (simp only [Int.reduceToNat, Int.toNat_one, Int.toNat_zero, List.set_cons_succ, List.set_cons_zero]; rfl)))
  | ((with_reducible refine' Wm.r_gtupK ?h1 ?h2 ?_); (case h1 => walk_at "w_hp"); (case h2 => rfl))
  | ((with_reducible refine' Wm.r_tyLK ?h1 ?_); (case h1 => walk_at "w_hp"))
  | ((with_reducible refine' Wm.r_append ?h1 ?h2 ?_); (case h1 => walk_at "w_hp"); (case h2 => walk_at "w_sz"))
  | ((with_reducible refine' Wm.r_listLK ?h1 ?_); (case h1 => walk_at "w_hp"); (intro q H' nq sq eq))
  | ((with_reducible refine' Wm.r_ixLK ?h1 ?h2 ?_); (case h1 => walk_at "w_hp"); (case h2 => rfl))
  | ((with_reducible refine' Wm.r_dgetK ?h1 ?h2 ?_); (case h1 => walk_at "w_hp"); (case h2 => walk_at "w_val"))
  | ((with_reducible refine' Wm.r_dputU ?h1 ?h2 ?_); (case h1 => walk_at "w_put"); (case h2 => walk_at "w_sz"))
  | ((with_reducible refine' Wm.r_dputK ?h1 ?h2 ?h3 ?_); (case h1 => walk_at "w_hp"); (case h2 => walk_at "w_put"); (case h3 => walk_at "w_sz"))
  | ((with_reducible refine' Wm.r_lenK ?h1 ?_); (case h1 => walk_at "w_hp"))
  | walk_at "w_x"
  | fail "no way")
local macro_rules | `(tactic| walk_at "w_gp") => `(tactic| repeat walk_at "w_sp")
local macro_rules | `(tactic| walk_at "w_big") => `(tactic| first
  | kernel_rfl
  | rfl
  | fail "no leaf")
namespace Wm
open PySem L2

section
variable {P : Program} {w : World} {K : PySem.W.Frag} {mg : Str → Option Value} {base : Heap} {ad : Ad}
theorem ok_l_take (T : Txt P K mg ad) : FnOk P w K mg base (L2.CX P w) 2 ad.l_take ad.fd_l_take ["_law_pen_here", "_law_bound"] spTake := by
  refine T.F_l_take.okX sc_l_take (fun vs H Q E h => ?_) (fun cdv A outer s H vs Q E hr h => ?_)
  · obtain ⟨p, c, b, rfl, _⟩ := h
    rfl
  obtain ⟨p, c, b, rfl, ⟨ns, a, r, g, m, t, hp, hc, ha, hm, hm2⟩, hb, hb2, k⟩ := h
  have hcp : c ≠ p := ne_of hc hp (by intro z; cases z)
  refine ⟨_, (pss_cons (ps_dput (hu_of hr) (pv 0) pe_str (pe_op op_add (pe_dget (hu_of hr) (pv 0) pe_str (fun _ _ => rfl)) pe_int) rfl)
    (pss_cons (ps_if (PW.pt (pw_and (pt_cmpR op_eq (pe_dget (hu_of hr) (pv 0) pe_str (fun _ _ => rfl)) pe_int (nomark _)) (pw_and1 (pt_cmpR op_lt (pe_dget (hu_of hr) (pv 0) pe_str (fun _ _ => rfl)) (pe_callB c_len (by rfl) T.n_len PySem.boot_len (pa_cons (pe_dget (hu_of hr) (pv 0) pe_str (fun _ _ => rfl)) pa_nil)) (nomark _))))) (pss_cons (ps_set (i := 2) sc_l_take.nd rfl (Or.inl rfl) (pe_ix ix_list (pe_dget (hu_of hr) (pv 0) pe_str (fun _ _ => rfl)) (pe_dget (hu_of hr) (pv 0) pe_str (fun _ _ => rfl)) (fun _ _ => rfl)))
    (pss_cons (ps_dput (hu_of hr) (pv 0) pe_str (pe_op op_add (pe_dget (hu_of hr) (pv 0) pe_str (fun _ _ => rfl)) pe_int) rfl)
    (pss_cons (ps_if (pt_cmpR op_lt (pv 2) (pe_op op_pow pe_int pe_int) (nomark _)) (pss_cons (ps_set (i := 3) sc_l_take.nd rfl (Or.inl rfl) (pe_op op_mod (pe_callTy c_int1 (by rfl) T.n_int (by decide +kernel) (pa_cons (pv 2) pa_nil)) pe_int))
    (pss_cons (ps_set (i := 3) sc_l_take.nd rfl (Or.inl rfl) (pe_op op_mod (pe_callTy c_int1 (by rfl) T.n_int (by decide +kernel) (pa_cons (pe_op op_add (pe_op op_add (pe_op op_mul (pv 3) pe_int) (pe_dget (hu_of hr) (pv 0) pe_str (fun _ _ => rfl))) (pe_op op_mul (pe_dget (hu_of hr) (pv 0) pe_str (fun _ _ => rfl)) pe_int)) pa_nil)) pe_int))
    (pss_cons (ps_dput (hu_of hr) (pv 0) pe_str (pe_op op_mod (pe_callTy c_int1 (by rfl) T.n_int (by decide +kernel) (pa_cons (pe_op op_add (pe_op op_add (pe_op op_mul (pe_dget (hu_of hr) (pv 0) pe_str (fun _ _ => rfl)) pe_int) (pv 3)) pe_int) pa_nil)) pe_int) rfl)
    (pss_one (ps_ret (pe_op op_mod (pe_op op_fdiv (pe_op op_mod (pe_callTy c_int1 (by rfl) T.n_int (by decide +kernel) (pa_cons (pe_op op_add (pe_op op_mul (pv 3) (pv 3)) (pe_dget (hu_of hr) (pv 0) pe_str (fun _ _ => rfl))) pa_nil)) pe_int) pe_int) (pv 1))))))) pss_nil)
    (pss_cons (ps_dput (hu_of hr) (pv 0) pe_str (pe_op op_sub (pv 2) (pe_op op_pow pe_int pe_int)) rfl)
    (pss_one (ps_dput (hu_of hr) (pv 0) pe_str pe_int rfl)))))) pss_nil)
    (pss_cons (ps_if (pt_cmpR op_gt (pe_dget (hu_of hr) (pv 0) pe_str (fun _ _ => rfl)) pe_int (nomark _)) (pss_cons (ps_dput (hu_of hr) (pv 0) pe_str (pe_op op_sub (pe_dget (hu_of hr) (pv 0) pe_str (fun _ _ => rfl)) pe_int) rfl)
    (pss_cons (ps_set (i := 4) sc_l_take.nd rfl (Or.inl rfl) (pe_op op_mod (pe_callTy c_int1 (by rfl) T.n_int (by decide +kernel) (pa_cons (pe_dget (hu_of hr) (pv 0) pe_str (fun _ _ => rfl)) pa_nil)) (pv 1)))
    (pss_cons (ps_dput (hu_of hr) (pv 0) pe_str (pe_op op_fdivW (pe_dget (hu_of hr) (pv 0) pe_str (fun _ _ => rfl)) (pv 1)) rfl)
    (pss_one (ps_ret (pv 4)))))) pss_nil)
    (pss_cons (ps_dput (hu_of hr) (pv 0) pe_str (pe_op op_mod (pe_callTy c_int1 (by rfl) T.n_int (by decide +kernel) (pa_cons (pe_op op_add (pe_op op_add (pe_op op_mul (pe_dget (hu_of hr) (pv 0) pe_str (fun _ _ => rfl)) pe_int) (pe_op op_mul (pe_dget (hu_of hr) (pv 0) pe_str (fun _ _ => rfl)) pe_int)) pe_int) pa_nil)) pe_int) rfl)
    (pss_one (ps_ret (pe_op op_mod (pe_op op_fdiv (pe_op op_mod (pe_callTy c_int1 (by rfl) T.n_int (by decide +kernel) (pa_cons (pe_op op_add (pe_op op_mul (pe_dget (hu_of hr) (pv 0) pe_str (fun _ _ => rfl)) (pe_dget (hu_of hr) (pv 0) pe_str (fun _ _ => rfl))) (pe_dget (hu_of hr) (pv 0) pe_str (fun _ _ => rfl))) pa_nil)) pe_int) pe_int) (pv 1)))))))), ?_⟩
  rw [show L2.start ["_law_pen_here", "_law_bound", "_law_cell", "_law_mixed", "_law_digit"] [V.ref p, V.int b] = [some (V.ref p), some (V.int b), none, none, none] from rfl]
  have fin : ∀ (x a r g m t : Int), 0 ≤ a → 0 ≤ m → m < 2147483648 → Q (.int (x % b)) (upd H p (.dK (pk c a r g m t))) := fun x a r g m t h1 h2 h3 => k _ _ (Int.emod_nonneg _ (by omega)) (Int.emod_lt_of_pos _ hb) (pen_put hc hcp h1 h2 h3)
  have h1 : ∀ x : Int, 0 ≤ x % 2147483629 ∧ x % 2147483629 < 2147483629 := fun x => by omega
  have h2 : ∀ x : Int, 0 ≤ x % 2147483647 ∧ x % 2147483647 < 2147483647 := fun x => by omega
  walk_at "w_go"
  walk_at "w_br"
  · walk_at "w_go"
    walk_at "w_br"
    · walk_at "w_go"
      obtain ⟨z, _, hz⟩ := at_int ha (by assumption)
      refine r_ixL (SqL.of (by walk_at "w_hp")) hz ?_
      walk_at "w_go"
      walk_at "w_br"
      · walk_at "w_go"
        exact fin _ _ _ _ _ _ (by omega) (by omega) (by omega)
      · walk_at "w_go"
        walk_at "w_br"
        · walk_at "w_go"
          exact fin _ _ _ _ _ _ (by omega) (by omega) (by omega)
        · omega
    · walk_at "w_go"
      walk_at "w_br"
      · omega
      · walk_at "w_go"
        exact fin _ _ _ _ _ _ (by omega) (by omega) (by omega)
  · walk_at "w_go"
    walk_at "w_br"
    · walk_at "w_go"
      exact fin _ _ _ _ _ _ (by omega) (by omega) (by omega)
    · walk_at "w_go"
      exact fin _ _ _ _ _ _ (by omega) (by omega) (by omega)
theorem ok_l_bit (T : Txt P K mg ad) : FnOk P w K mg base (L2.CX P w) 3 ad.l_bit ad.fd_l_bit ["_law_pen_here", "_law_bound"] spBit := by
  refine T.F_l_bit.okX sc_l_bit (fun vs H Q E h => ?_) (fun cdv A outer s H vs Q E hr h => ?_)
  · obtain ⟨p, c, b, rfl, _⟩ := h
    rfl
  obtain ⟨p, c, b, rfl, hp, hb, hb2, k⟩ := h
  refine ⟨_, (pss_one (ps_ret (pe_cmpR op_eq (pe_call (ok_l_take T) hr rfl T.g_l_take T.F_l_take.kp T.b_l_take .nil passL (pa_cons (pv 0) (pa_cons (pv 1) pa_nil))) pe_int (nomark _)))), ?_⟩
  rw [show L2.start ["_law_pen_here", "_law_bound"] [V.ref p, V.int b] = [some (V.ref p), some (V.int b)] from rfl]
  walk_at "w_go"
  refine r_take hp hb hb2 (fun r H' h0 h1 hs => ?_)
  walk_at "w_go"
  exact k _ _ hs
theorem ok_is_choice (T : Txt P K mg ad) : FnOk P w K mg base (L2.CX P w) 2 ad.is_choice ad.fd_is_choice ["thing", "choices"] (spChoice K) := by
  refine T.F_is_choice.okX sc_is_choice (fun vs H Q E h => ?_) (fun cdv A outer s H vs Q E hr h => ?_)
  · obtain ⟨v, a, ss, rfl, _⟩ := h
    rfl
  obtain ⟨v, a, ss, rfl, ha, hv, k⟩ := h
  refine ⟨_, (pss_one (ps_ret (pe_and (pe_callB call_isi (by rfl) T.n_isinstance (by decide +kernel) (pa_cons (pv 0) (pa_cons (pe_bltn (v := .ty "str") (by rfl) T.n_str (by decide +kernel) rfl) pa_nil))) (pe_one (pe_cmpR op_in_seq (pv 0) (pv 1) (by rfl)))))), ?_⟩
  rw [show L2.start ["thing", "choices"] [v, V.ref a] = [some (v), some (V.ref a)] from rfl]
  walk_at "w_go"
  obtain ⟨t, b, h1, h2, h3⟩ := hv.isStr (K := K)
  refine r_isi h1 h2 ?_
  walk_at "w_go"
  cases b with
  | true =>
    obtain ⟨x, rfl⟩ := h3.mp rfl
    walk_at "w_go"
    refine r_in (.inr ha) rfl (flat_strs ss) ?_
    rw [if_neg Bool.false_ne_true, inV_strs]
    exact k
  | false =>
    walk_at "w_go"
    have e : okv v ss = false := by
      cases v with
      | str x => exact absurd (h3.mpr ⟨x, rfl⟩) Bool.false_ne_true
      | _ => rfl
    rw [e] at k
    exact k
theorem ok_l_pen (T : Txt P K mg ad) : FnOk P w K mg base (L2.CX P w) 2 ad.l_pen ad.fd_l_pen ["_law_script"] (spPen K) := by
  refine T.F_l_pen.okX sc_l_pen (fun vs H Q E h => ?_) (fun cdv A outer s H vs Q E hr h => ?_)
  · obtain ⟨a, ns, rfl, _⟩ := h
    rfl
  obtain ⟨a, ns, rfl, hS, k⟩ := h
  refine ⟨_, (pss_cons (ps_set (i := 1) sc_l_pen.nd rfl (Or.inl rfl) pe_int)
    (pss_cons (ps_for (passes_of rfl) rfl (pi_list (pv 0)) (pg_name (i := 2) sc_l_pen.nd rfl (Or.inl rfl)) (pss_one (ps_set (i := 1) sc_l_pen.nd rfl (Or.inl rfl) (pe_op op_mod (pe_callTy c_int1 (by rfl) T.n_int (by decide +kernel) (pa_cons (pe_op op_add (pe_op op_mul (pv 1) pe_int) (pv 2)) pa_nil)) pe_int))))
    (pss_one (ps_ret (pe_disp (pps_cons pe_str (pe_callTy c_list (by rfl) T.n_list (by decide +kernel) (pa_cons (pv 0) pa_nil)) (pps_cons pe_str pe_int (pps_cons pe_str pe_int (pps_cons pe_str pe_int (pps_cons pe_str (pv 1) (pps_cons pe_str pe_int pps_nil)))))) (by rfl) (by rfl) (fun z => by cases z) (by decide)))))), ?_⟩
  rw [show L2.start ["_law_script", "_law_total", "_law_cell"] [V.ref a] = [some (V.ref a), none, none] from rfl]
  walk_at "w_go"
  refine r_ilK hS (for_list (K := K) (a := a) (xs := ns.map V.int) (fun i σ H' => H' = H ∧ ∃ (t : Int) (v : Option V), σ = [some (.ref a), some (.int t), v] ∧ 0 ≤ t ∧ t < 2147483629) ⟨rfl, 17, none, rfl, by decide, by decide⟩ ?_ ?_ ?_)
  · rintro i σ H' _ ⟨rfl, _⟩
    exact hS
  · rintro i x σ H' hi ⟨rfl, t, v, rfl, h0, h1⟩
    obtain ⟨z, rfl⟩ : ∃ z, x = V.int z := by
      rw [List.getElem?_map] at hi
      cases e : ns[i]? with
      | none => rw [e] at hi; cases hi
      | some u => rw [e] at hi; exact ⟨u, (Option.some.inj hi).symm⟩
    walk_at "w_go"
    exact ⟨rfl, _, _, rfl, by omega, by omega⟩
  · rintro σ H' ⟨rfl, t, v, rfl, h0, h1⟩
    walk_at "w_go"
    rename_i q H1 nq sq eq
    refine r_listL (Same.seq sq hS) (fun c nc => ?_)
    walk_at "w_go"
    refine r_dispE [(.inr "cells", .ref c), (.inr "at", .int 0), (.inr "rest", .int 0), (.inr "digits", .int 0), (.inr "mix", .int t), (.inr "turn", .int 0)] (pk c 0 0 0 t 0) (by walk_at "w_hp") rfl (by simp) rfl ?_
    have ncq : c ≠ q := (ne_of_none eq nc).symm
    refine k q c _ ⟨ns, 0, 0, 0, t, 0, upd_same, by rw [upd_ne ncq]; exact upd_same, by decide, h0, by omega⟩ ?_ nq
    exact same_put (Same.trans sq (same_new nc)) nq
theorem ok_Guard_init (T : Txt P K mg ad) : FnOk P w K mg base (L2.CX P w) 3 ad.Guard_init ad.fd_Guard_init ["self", "mark", "act", "by", "keep", "keep_by"] (spInit ad) := by
  refine T.F_Guard_init.ok sc_Guard_init (fun vs H Q E h => ?_) (fun cdv A outer s H vs Q E hr h => ?_)
  · obtain ⟨a, dx, v0, v1, v2, v3, v4, rfl, _⟩ := h
    rfl
  obtain ⟨a, dx, v0, v1, v2, v3, v4, rfl, hx, ⟨a0, a1, a2, a3, a4⟩, kE, kS⟩ := h
  refine ⟨_, (pss_cons (ps_set (i := 6) sc_Guard_init.nd rfl (Or.inl rfl) (pe_lst (pa_cons (pe_tup (pa_cons pe_str (pa_cons (pv 1) (pa_cons (pe_glob (v := .ref ad.MARKS) rfl T.g_MARKS rfl) pa_nil)))) (pa_cons (pe_tup (pa_cons pe_str (pa_cons (pv 2) (pa_cons (pe_glob (v := .ref ad.ACTS) rfl T.g_ACTS rfl) pa_nil)))) (pa_cons (pe_tup (pa_cons pe_str (pa_cons (pv 3) (pa_cons (pe_glob (v := .ref ad.BY) rfl T.g_BY rfl) pa_nil)))) (pa_cons (pe_tup (pa_cons pe_str (pa_cons (pv 4) (pa_cons (pe_glob (v := .ref ad.KEEPS) rfl T.g_KEEPS rfl) pa_nil)))) pa_nil))))))
    (pss_cons (ps_expr (pe_bm PySem.F.plainAttrs_list PySem.F.slot_list_append PySem.F.type_list_append mt_append (pv 6) (pa_cons (pe_tup (pa_cons pe_str (pa_cons (pv 5) (pa_cons (pe_glob (v := .ref ad.BY) rfl T.g_BY rfl) pa_nil)))) pa_nil)))
    (pss_cons (ps_for (passes_of rfl) rfl (pi_list (pv 6)) (pg_tup rfl (pgs_cons (pg_name (i := 7) sc_Guard_init.nd rfl (Or.inl rfl)) (pgs_cons (pg_name (i := 8) sc_Guard_init.nd rfl (Or.inl rfl)) (pgs_cons (pg_name (i := 9) sc_Guard_init.nd rfl (Or.inl rfl)) pgs_nil)))) (pss_one (ps_if (pt_not (pt_val (pe_call (ok_is_choice T) hr rfl T.g_is_choice T.F_is_choice.kp T.b_is_choice .nil passL (pa_cons (pv 8) (pa_cons (pv 9) pa_nil))))) (pss_one (ps_raiseEr rfl T.er_BadGuard hr (takes_of rfl rfl rfl rfl) T.g_BadGuard (pa_cons (pv 7) pa_nil))) pss_nil)))
    (pss_cons (ps_fld (pv 0) (pv 1) rfl)
    (pss_cons (ps_fld (pv 0) (pe_ifExp (pt_cmpR op_eq (pv 1) pe_str (nomark _)) pe_str (pv 2)) rfl)
    (pss_cons (ps_fld (pv 0) (pe_ifExp (pt_cmpR op_eq (pv 1) pe_str (nomark _)) pe_str (pv 3)) rfl)
    (pss_cons (ps_fld (pv 0) (pv 4) rfl)
    (pss_one (ps_fld (pv 0) (pe_ifExp (pt_cmpR op_eq (pv 4) pe_str (nomark _)) pe_str (pv 5)) rfl))))))))), ?_⟩
  rw [show L2.start ["self", "mark", "act", "by", "keep", "keep_by", "checked", "part", "value", "choices"] [V.ref a, v0, v1, v2, v3, v4] = [some (V.ref a), some (v0), some (v1), some (v2), some (v3), some (v4), none, none, none, none] from rfl]
  walk_at "w_go"
  rename_i t0 G0 n0 s0 e0 t1 G1 n1 s1 e1 t2 G2 n2 s2 e2 t3 G3 n3 s3 e3 L G4 n4 s4 e4 t4 G5 n5 s5 e5
  have h0 : upd G5 L (.lst ([V.ref t0, .ref t1, .ref t2, .ref t3] ++ [.ref t4])) t0 = some (.tup [.str "mark", v0, .ref ad.MARKS]) := by walk_at "w_hp"
  have h1 : upd G5 L (.lst ([V.ref t0, .ref t1, .ref t2, .ref t3] ++ [.ref t4])) t1 = some (.tup [.str "act", v1, .ref ad.ACTS]) := by walk_at "w_hp"
  have h2 : upd G5 L (.lst ([V.ref t0, .ref t1, .ref t2, .ref t3] ++ [.ref t4])) t2 = some (.tup [.str "by", v2, .ref ad.BY]) := by walk_at "w_hp"
  have h3 : upd G5 L (.lst ([V.ref t0, .ref t1, .ref t2, .ref t3] ++ [.ref t4])) t3 = some (.tup [.str "keep", v3, .ref ad.KEEPS]) := by walk_at "w_hp"
  have h4 : upd G5 L (.lst ([V.ref t0, .ref t1, .ref t2, .ref t3] ++ [.ref t4])) t4 = some (.tup [.str "keep_by", v4, .ref ad.BY]) := by walk_at "w_hp"
  have hL : upd G5 L (.lst ([V.ref t0, .ref t1, .ref t2, .ref t3] ++ [.ref t4])) L = some (.lst [V.ref t0, .ref t1, .ref t2, .ref t3, .ref t4]) := upd_same
  have hS : Same H (upd G5 L (.lst ([V.ref t0, .ref t1, .ref t2, .ref t3] ++ [.ref t4]))) := by walk_at "w_same"
  clear s0 s1 s2 s3 s4 s5 e0 e1 e2 e3 e4 e5 n0 n1 n2 n3 n4 n5
  generalize upd G5 L (.lst ([V.ref t0, .ref t1, .ref t2, .ref t3] ++ [.ref t4])) = Hc at h0 h1 h2 h3 h4 hL hS ⊢
  let okN : Nat → Bool := fun j => [okv v0 MARKSl, okv v1 ACTSl, okv v2 BYl, okv v3 KEEPSl, okv v4 BYl].getD j true
  have item : ∀ (i : Nat) (x : V), [V.ref t0, .ref t1, .ref t2, .ref t3, .ref t4][i]? = some x → ∃ (t : Addr) (part : Str) (v : V) (cA : Addr) (cs : List Str), x = .ref t ∧ Hc t = some (.tup [.str part, v, .ref cA]) ∧ (∀ H, SqT K H cA (cs.map V.str)) ∧ AnyV Hc v ∧ okN i = okv v cs ∧ ((∀ j, j < i → okN j = true) → okv v cs = false → badPart v0 v1 v2 v3 v4 = some part) := by
    intro i x hi
    match i, hi with
    | 0, hi =>
      cases hi
      refine ⟨_, _, _, _, _, rfl, h0, T.c_MARKS, a0.same hS, rfl, fun _ z => ?_⟩
      unfold badPart
      rw [if_pos z]
    | 1, hi =>
      cases hi
      refine ⟨_, _, _, _, _, rfl, h1, T.c_ACTS, a1.same hS, rfl, fun hj z => ?_⟩
      have j0 : okv v0 MARKSl = true := hj 0 (by decide)
      unfold badPart
      rw [if_neg (by simp [j0]), if_pos z]
    | 2, hi =>
      cases hi
      refine ⟨_, _, _, _, _, rfl, h2, T.c_BY, a2.same hS, rfl, fun hj z => ?_⟩
      have j0 : okv v0 MARKSl = true := hj 0 (by decide)
      have j1 : okv v1 ACTSl = true := hj 1 (by decide)
      unfold badPart
      rw [if_neg (by simp [j0]), if_neg (by simp [j1]), if_pos z]
    | 3, hi =>
      cases hi
      refine ⟨_, _, _, _, _, rfl, h3, T.c_KEEPS, a3.same hS, rfl, fun hj z => ?_⟩
      have j0 : okv v0 MARKSl = true := hj 0 (by decide)
      have j1 : okv v1 ACTSl = true := hj 1 (by decide)
      have j2 : okv v2 BYl = true := hj 2 (by decide)
      unfold badPart
      rw [if_neg (by simp [j0]), if_neg (by simp [j1]), if_neg (by simp [j2]), if_pos z]
    | 4, hi =>
      cases hi
      refine ⟨_, _, _, _, _, rfl, h4, T.c_BY, a4.same hS, rfl, fun hj z => ?_⟩
      have j0 : okv v0 MARKSl = true := hj 0 (by decide)
      have j1 : okv v1 ACTSl = true := hj 1 (by decide)
      have j2 : okv v2 BYl = true := hj 2 (by decide)
      have j3 : okv v3 KEEPSl = true := hj 3 (by decide)
      unfold badPart
      rw [if_neg (by simp [j0]), if_neg (by simp [j1]), if_neg (by simp [j2]), if_neg (by simp [j3]), if_pos z]
    | n + 5, hi => cases hi
  refine r_ilK (SqL.of hL) (for_list (K := K) (a := L) (xs := [V.ref t0, .ref t1, .ref t2, .ref t3, .ref t4]) (fun i σ H' => H' = Hc ∧ (∀ j, j < i → okN j = true) ∧ ∃ (p v c : Option V), σ = [some (.ref a), some v0, some v1, some v2, some v3, some v4, some (.ref L), p, v, c]) ⟨rfl, fun j hj => absurd hj (Nat.not_lt_zero j), none, none, none, rfl⟩ ?_ ?_ ?_)
  · rintro i σ H' _ ⟨rfl, _⟩
    exact SqL.of hL
  · rintro i x σ H' hi ⟨rfl, hj, p, v, c, rfl⟩
    obtain ⟨t, part, u, cA, cs, rfl, ht, hsq, hany, hok, hbad⟩ := item i x hi
    walk_at "w_go"
    refine ⟨u, cA, cs, rfl, hsq _, hany, ?_⟩
    walk_at "w_go"
    walk_at "w_br"
    · rename_i hbr
      walk_at "w_go"
      rename_i d Hd nd sd ed
      exact kE part (hbad hj hbr) d Hd (hS.trans sd) (by walk_at "w_frs") ed
    · rename_i hbr
      walk_at "w_go"
      refine ⟨rfl, fun j hj' => ?_, _, _, _, rfl⟩
      by_cases e : j = i
      · rw [e, hok, hbr]
      · exact hj j (by omega)
  · rintro σ H' ⟨rfl, hj, p, v, c, rfl⟩
    obtain ⟨m, rfl, m1⟩ := okv_str (show okv v0 MARKSl = true from hj 0 (by simp))
    obtain ⟨t, rfl, m2⟩ := okv_str (show okv v1 ACTSl = true from hj 1 (by simp))
    obtain ⟨b, rfl, m3⟩ := okv_str (show okv v2 BYl = true from hj 2 (by simp))
    obtain ⟨k, rfl, m4⟩ := okv_str (show okv v3 KEEPSl = true from hj 3 (by simp))
    obtain ⟨e, rfl, m5⟩ := okv_str (show okv v4 BYl = true from hj 4 (by simp))
    have kk := kS m t b k e rfl rfl rfl rfl rfl m1 m2 m3 m4 m5
    have hxa := hS _ _ hx
    have cl := T.ow_Guard.cl
    have f1 := T.no_Guard_mark
    have f2 := T.no_Guard_act
    have f3 := T.no_Guard_by
    have f4 := T.no_Guard_keep
    have f5 := T.no_Guard_keep_by
    walk_at "w_go"
    have fin : ∀ {H2 : Hp} {l : List (Str × V)}, (∀ (b : Addr) (o : HO), b ≠ a → H b = some o → H2 b = some o) → H2 a = some (.ins ad.Guard dx l) → l = gfs (plain5 m t b k e) → Q V.non H2 := fun g h z => kk _ g (z ▸ h)
    clear kk kE kS item
    walk_at "w_br"
    · rename_i hm
      walk_at "w_go"
      walk_at "w_br"
      · walk_at "w_go"
        walk_at "w_br"
        · rename_i hk
          walk_at "w_go"
          exact fin (fun b o nb hb => by walk_at "w_hp") upd_same (by simp only [gfs, plain5, hm, hk, if_true, if_false, reduceIte]; rfl)
        · rename_i hk
          walk_at "w_go"
          exact fin (fun b o nb hb => by walk_at "w_hp") upd_same (by simp only [gfs, plain5, hm, hk, if_true, if_false, reduceIte]; rfl)
      · rename_i hm'
        exact absurd hm hm'
    · rename_i hm
      walk_at "w_go"
      walk_at "w_br"
      · rename_i hm'
        exact absurd hm' hm
      · walk_at "w_go"
        walk_at "w_br"
        · rename_i hk
          walk_at "w_go"
          exact fin (fun b o nb hb => by walk_at "w_hp") upd_same (by simp only [gfs, plain5, hm, hk, if_true, if_false, reduceIte]; rfl)
        · rename_i hk
          walk_at "w_go"
          exact fin (fun b o nb hb => by walk_at "w_hp") upd_same (by simp only [gfs, plain5, hm, hk, if_true, if_false, reduceIte]; rfl)

end
end Wm
namespace Wm
open PySem L2

section
variable {P : Program} {w : World} {K : PySem.W.Frag} {mg : Str → Option Value} {base : Heap} {ad : Ad}
theorem ok_Guard_eq (T : Txt P K mg ad) : FnOk P w K mg base (L2.CX P w) 2 ad.Guard_eq ad.fd_Guard_eq ["self", "other"] (spEq ad) := by
  refine T.F_Guard_eq.okX sc_Guard_eq (fun vs H Q E h => ?_) (fun cdv A outer s H vs Q E hr h => ?_)
  · obtain ⟨a, dx, m, t, b, k, e, v, rfl, _⟩ := h
    rfl
  obtain ⟨a, dx, m, t, b, k, e, v, rfl, ha, hv⟩ := h
  refine ⟨_, (pss_one (ps_ret (pe_and (pe_callB call_isi (by rfl) T.n_isinstance (by decide +kernel) (pa_cons (pv 1) (pa_cons (pe_glob (v := .ref ad.Guard) rfl T.g_Guard rfl) pa_nil))) (pe_and (pe_cmpR op_eq (pe_fld (pv 0) rfl) (pe_fld (pv 1) rfl) (nomark _)) (pe_and (pe_cmpR op_eq (pe_fld (pv 0) rfl) (pe_fld (pv 1) rfl) (nomark _)) (pe_and (pe_cmpR op_eq (pe_fld (pv 0) rfl) (pe_fld (pv 1) rfl) (nomark _)) (pe_and (pe_cmpR op_eq (pe_fld (pv 0) rfl) (pe_fld (pv 1) rfl) (nomark _)) (pe_one (pe_cmpR op_eq (pe_fld (pv 0) rfl) (pe_fld (pv 1) rfl) (nomark _)))))))))), ?_⟩
  rw [show L2.start ["self", "other"] [V.ref a, v] = [some (V.ref a), some (v)] from rfl]
  have cl := T.ow_Guard.cl
  have f1 := T.no_Guard_mark
  have f2 := T.no_Guard_act
  have f3 := T.no_Guard_by
  have f4 := T.no_Guard_keep
  have f5 := T.no_Guard_keep_by
  rcases hv with ⟨a', dx', m', t', b', k', e', rfl, ha', q⟩ | ⟨hany, q⟩
  · walk_at "w_go"
    refine r_isiO (T.ow_Guard.ty ha') T.ow_Guard.self ?_
    have fin : ∀ {b1 : Bool}, (b1 = decide ([m, t, b, k, e] = [m', t', b', k', e'])) → Q (V.bl b1) H := fun z => z ▸ q
    clear q
    walk_at "w_go"
    walk_at "w_br"
    · walk_at "w_go"
      walk_at "w_br"
      · walk_at "w_go"
        walk_at "w_br"
        · walk_at "w_go"
          walk_at "w_br"
          · walk_at "w_go"
            exact fin (by clear fin; simp only [List.getD_cons_zero, List.getD_cons_succ] at *; simp [*])
          · walk_at "w_go"
            exact fin (by clear fin; simp only [List.getD_cons_zero, List.getD_cons_succ] at *; simp [*])
        · walk_at "w_go"
          exact fin (by clear fin; simp only [List.getD_cons_zero, List.getD_cons_succ] at *; simp [*])
      · walk_at "w_go"
        exact fin (by clear fin; simp only [List.getD_cons_zero, List.getD_cons_succ] at *; simp [*])
    · walk_at "w_go"
      exact fin (by clear fin; simp only [List.getD_cons_zero, List.getD_cons_succ] at *; simp [*])
  · obtain ⟨ty, h1, h2, _⟩ := hany.ty (K := K)
    walk_at "w_go"
    refine r_isiO h1 (T.ow_Guard.base ty h2) ?_
    walk_at "w_go"
    exact q

end
end Wm
namespace Wm
open PySem L2

section
variable {P : Program} {w : World} {K : PySem.W.Frag} {mg : Str → Option Value} {base : Heap} {ad : Ad}
theorem ok_split_text (T : Txt P K mg ad) : FnOk P w K mg base (L2.CX P w) 2 ad.split_text ad.fd_split_text ["text"] spSplit := by
  refine T.F_split_text.okX sc_split_text (fun vs H Q E h => ?_) (fun cdv A outer s H vs Q E hr h => ?_)
  · obtain ⟨v, rfl, _⟩ := h
    rfl
  obtain ⟨v, rfl, hv, hz, kN, kS⟩ := h
  refine ⟨_, (pss_cons (ps_if (pt_not (pt_val (pe_callB call_isi (by rfl) T.n_isinstance (by decide +kernel) (pa_cons (pv 0) (pa_cons (pe_bltn (v := .ty "str") (by rfl) T.n_str (by decide +kernel) rfl) pa_nil))))) (pss_one (ps_ret pe_non)) pss_nil)
    (pss_cons (ps_if (pt_cmpR op_eq (pv 0) pe_str (nomark _)) (pss_one (ps_ret (pe_tup (pa_cons pe_str (pa_cons pe_str (pa_cons pe_str (pa_cons pe_str (pa_cons pe_str pa_nil)))))))) pss_nil)
    (pss_cons (ps_setLc (i := 1) (own := [("part", 2)]) (g := gName 2) (tt := tYes) rfl sc_split_text.nd rfl rfl (sw_true rfl rfl rfl (by decide +kernel)) (pi_list (pe_bm PySem.F.plainAttrs_str PySem.F.slot_str_split PySem.F.type_str_split mtSplit (pv 0) (pa_cons pe_str pa_nil))) (blkOk_by (own := [("part", 2)]) (N := ["text", "parts", "part", "mark", "by", "act", "keep", "keep_by"]) (sc := defScope s_split_text) (by decide +kernel)) (fun _ _ _ _ _ => pg_name (i := 2) sc_split_text.nd rfl (Or.inl rfl)) (fun _ _ _ _ _ => pts_nil) (fun _ _ _ _ _ => (pe_bm PySem.F.plainAttrs_str PySem.F.slot_str_split PySem.F.type_str_split mtSplit (pv 2) (pa_cons pe_str pa_nil) : PE _ _ (tBM K _ _ _ _))))
    (pss_cons (ps_asg (pe_tup (pa_cons pe_str (pa_cons pe_str (pa_cons pe_str pa_nil)))) (pg_tup rfl (pgs_cons (pg_name (i := 3) sc_split_text.nd rfl (Or.inl rfl)) (pgs_cons (pg_name (i := 4) sc_split_text.nd rfl (Or.inl rfl)) (pgs_cons (pg_name (i := 5) sc_split_text.nd rfl (Or.inl rfl)) pgs_nil)))))
    (pss_cons (ps_asg (pe_tup (pa_cons pe_str (pa_cons pe_str pa_nil))) (pg_tup rfl (pgs_cons (pg_name (i := 6) sc_split_text.nd rfl (Or.inl rfl)) (pgs_cons (pg_name (i := 7) sc_split_text.nd rfl (Or.inl rfl)) pgs_nil))))
    (pss_cons (ps_if (pt_cmpR op_eq (pe_callB c_len (by rfl) T.n_len PySem.boot_len (pa_cons (pe_ix ix_list (pv 1) pe_int (fun _ _ => rfl)) pa_nil)) pe_int (nomark _)) (pss_cons (ps_asg (pe_ix ix_list (pv 1) pe_int (fun _ _ => rfl)) (pg_lst rfl (pgs_cons (pg_name (i := 3) sc_split_text.nd rfl (Or.inl rfl)) (pgs_cons (pg_name (i := 4) sc_split_text.nd rfl (Or.inl rfl)) (pgs_cons (pg_name (i := 5) sc_split_text.nd rfl (Or.inl rfl)) pgs_nil)))))
    (pss_cons (ps_if (PW.pt (pw_or (pt_cmpR op_notIn_seq (pv 3) (pe_slice sl_tup (pe_glob (v := .ref ad.MARKS) rfl T.g_MARKS rfl) (po_some pe_int) po_none) (by rfl)) (pw_or (pt_cmpR op_notIn_seq (pv 4) (pe_glob (v := .ref ad.BY) rfl T.g_BY rfl) (by rfl)) (pw_or1 (pt_cmpR op_notIn_seq (pv 5) (pe_glob (v := .ref ad.ACTS) rfl T.g_ACTS rfl) (by rfl)))))) (pss_one (ps_ret pe_non)) pss_nil)
    (pss_one (ps_set (i := 1) sc_split_text.nd rfl (Or.inl rfl) (pe_slice sl_list (pv 1) (po_some pe_int) po_none))))) pss_nil)
    (pss_cons (ps_if (PW.pt (pw_and (pt_cmpR op_gt (pe_callB c_len (by rfl) T.n_len PySem.boot_len (pa_cons (pv 1) pa_nil)) pe_int (nomark _)) (pw_and1 (pt_cmpR op_eq (pe_callB c_len (by rfl) T.n_len PySem.boot_len (pa_cons (pe_ix ix_list (pv 1) pe_int (fun _ _ => rfl)) pa_nil)) pe_int (nomark _))))) (pss_cons (ps_asg (pe_ix ix_list (pv 1) pe_int (fun _ _ => rfl)) (pg_lst rfl (pgs_cons (pg_name (i := 6) sc_split_text.nd rfl (Or.inl rfl)) (pgs_cons (pg_name (i := 7) sc_split_text.nd rfl (Or.inl rfl)) pgs_nil))))
    (pss_cons (ps_if (PW.pt (pw_or (pt_cmpR op_notIn_seq (pv 6) (pe_slice sl_tup (pe_glob (v := .ref ad.KEEPS) rfl T.g_KEEPS rfl) (po_some pe_int) po_none) (by rfl)) (pw_or1 (pt_cmpR op_notIn_seq (pv 7) (pe_glob (v := .ref ad.BY) rfl T.g_BY rfl) (by rfl))))) (pss_one (ps_ret pe_non)) pss_nil)
    (pss_one (ps_set (i := 1) sc_split_text.nd rfl (Or.inl rfl) (pe_slice sl_list (pv 1) (po_some pe_int) po_none))))) pss_nil)
    (pss_cons (ps_if (pt_cmpR op_gt (pe_callB c_len (by rfl) T.n_len PySem.boot_len (pa_cons (pv 1) pa_nil)) pe_int (nomark _)) (pss_one (ps_ret pe_non)) pss_nil)
    (pss_one (ps_ret (pe_tup (pa_cons (pv 3) (pa_cons (pv 4) (pa_cons (pv 5) (pa_cons (pv 6) (pa_cons (pv 7) pa_nil)))))))))))))))), ?_⟩
  rw [show L2.start ["text", "parts", "part", "mark", "by", "act", "keep", "keep_by"] [v] = [some (v), none, none, none, none, none, none, none] from rfl]
  walk_at "w_go"
  obtain ⟨t, b, h1, h2, h3⟩ := hv.isStr (K := K)
  refine r_isi h1 h2 ?_
  walk_at "w_go"
  cases b with
  | false =>
    walk_at "w_go"
    refine kN ?_ H (Same.refl _)
    cases v with
    | str x => exact absurd (h3.mpr ⟨x, rfl⟩) Bool.false_ne_true
    | _ => rfl
  | true =>
    obtain ⟨x, rfl⟩ := h3.mp rfl
    have hx := hz x rfl
    walk_at "w_go"
    walk_at "w_br"
    · rename_i e0
      subst e0
      walk_at "w_go"
      rename_i q1 H1 n1 s1 e1
      exact kS _ _ _ _ _ (by show splitT _ = _; unfold splitT; rw [if_pos rfl]) _ _ s1 n1 e1
    · rename_i e0
      walk_at "w_go"
      rename_i q1 H1 n1 s1 e1
      refine r_ilK (.of e1) (r_lcLG (fun _ => true) (fun u v G => ∃ (p : Str) (a : Addr), u = V.str p ∧ v = V.ref a ∧ G a = some (.lst ((Txt.split p sp1).map V.str))) (fun u v G G' h k => ?_) (.of e1) ?_ (fun D j u hD hj => ?_) (fun L ys H2 n2 s2 e2 hr => ?_))
      · obtain ⟨p, a, h1, h2, h3⟩ := h
        exact ⟨p, a, h1, h2, k _ _ h3⟩
      · rw [List.length_map, PySem.sizeLine_eq]
        have := PyProof.Rows.split_le x ", "
        omega
      · obtain ⟨p, rfl, hp⟩ := str_in hj
        have hl := piece_len hp
        refine ⟨fun H' R _ q => q, fun H' R acc _ s e k => ?_⟩
        walk_at "w_go"
        rename_i q3 H3 n3 s3 e3
        exact k _ _ s3 ⟨p, q3, rfl, rfl, hid_at (fun z => by rw [z, e] at n3; cases n3) e3⟩
      · rw [filt_true] at hr
        replace hr := pieces_of hr
        have hpos := PyProof.Rows.split_pos x ", "
        rcases hsp : Txt.split x cm2 with _ | ⟨p0, r⟩
        · rw [show (", " : Str) = cm2 from rfl, hsp] at hpos
          cases hpos
        rw [show (", " : Str) = cm2 from rfl, hsp] at hr
        cases hr with
        | cons h0 ht =>
        rename_i ys
        obtain ⟨a0, rfl, h0⟩ := h0
        have hs : Same H H2 := s1.trans s2
        have hlr : r.length ≤ 1000001 := by
          have z := PyProof.Rows.split_le x ", "
          rw [show (", " : Str) = cm2 from rfl, hsp, List.length_cons] at z
          have := hx
          omega
        clear s1 s2 e1 n1 n2
        walk_at "w_go"
        rename_i q3 H3 n3 s3 e3 q4 H4 n4 s4 e4
        refine r_ixLK (by walk_at "w_hp") at0 ?_
        walk_at "w_go"
        have hs4 : Same H H4 := (hs.trans s3).trans s4
        have ht4 : All2 (fun (p : Str) (v : V) => ∃ a, v = V.ref a ∧ H4 a = some (.lst ((Txt.split p sp1).map V.str))) r ys := ht.mono fun p v ⟨a, z1, z2⟩ => ⟨a, z1, s4 _ _ (s3 _ _ z2)⟩
        have eL4 : H4 L = some (.lst (V.ref a0 :: ys)) := s4 _ _ (s3 _ _ e2)
        have h04 : H4 a0 = some (.lst ((Txt.split p0 sp1).map V.str)) := s4 _ _ (s3 _ _ h0)
        clear e2 h0 ht hs s3 s4 e3 e4 n3 n4
        refine r_ifJ (fun σ H' => ∃ (L : Addr) (m b a : Str) (l : List Str), σ = [some (.str x), some (.ref L), none, some (.str m), some (.str b), some (.str a), some (.str "none"), some (.str "same")] ∧ Same H H' ∧ PartsAt H' L l ∧ l.length ≤ 1000002 ∧ splitT x = tailT m b a l) ?_ ?_
        · rintro σ H' ⟨L, m, b, a, l, rfl, hs, ⟨ys, eL, hr⟩, hl, hT⟩
          have kS' : ∀ m b a k e, splitT x = some (m, b, a, k, e) → ∀ r H'', Same H' H'' → H' r = none → H'' r = some (.tup [.str m, .str b, .str a, .str k, .str e]) → Q (.ref r) H'' := fun m b a k e z r H'' z2 z3 z4 => kS m b a k e z r H'' (hs.trans z2) (Same.free hs z3) z4
          have kN' : splitT x = none → ∀ H'', Same H' H'' → Q .non H'' := fun z H'' z2 => kN z H'' (hs.trans z2)
          clear hs hs4 eL4 h04 ht4 kS kN
          walk_at "w_go"
          cases hr with
          | nil =>
            refine iteF ?_
            walk_at "w_go"
            refine iteF ?_
            walk_at "w_go"
            rename_i q5 H5 n5 s5 e5
            exact kS' _ _ _ _ _ (hT.trans tail_nil) _ _ s5 n5 e5
          | cons h1 ht =>
          rename_i p1 v1 l1 ys
          obtain ⟨a1, rfl, h1⟩ := h1
          have ex : ∀ {α : Type} (v : α) (l : List α), decide ((0 : Int) < ((v :: l).length : Nat)) = true := fun v l => decide_eq_true (by simp only [List.length_cons]; omega)
          refine iteT' (ex _ _) ?_
          walk_at "w_go"
          refine r_ixLK (by walk_at "w_hp") at0 ?_
          walk_at "w_go"
          walk_at "w_br"
          · rename_i h2
            obtain ⟨k, e, hw⟩ := len2 (l := Txt.split p1 sp1) (by rw [List.length_map] at h2; omega)
            rw [hw] at h1
            replace h1 : H' a1 = some (.lst [.str k, .str e]) := h1
            walk_at "w_go"
            refine r_ixLK (by walk_at "w_hp") at0 ?_
            walk_at "w_go"
            rw [tail_2 hw] at hT
            refine r_slT (T.c_KEEPS _) (by decide) (fun q5 H5 n5 s5 e5 => ?_)
            replace e5 : H5 q5 = some (.tup ((["ahead", "behind"] : List Str).map V.str)) := e5
            refine r_inSN (.inr (.of e5)) ?_
            walk_at "w_go"
            by_cases c1 : k ∈ (["ahead", "behind"] : List Str)
            · refine iteF' (by simp [c1]) ?_
              walk_at "w_go"
              refine r_inSN (.inr (T.c_BY _)) ?_
              walk_at "w_go"
              by_cases c2 : e ∈ BYl
              · refine iteF' (by simp [c2]) ?_
                walk_at "w_go"
                rename_i q6 H6 n6 s6 e6
                rw [cut_tail] at e6
                rw [if_pos ⟨by simpa using c1, c2⟩] at hT
                cases ht with
                | nil =>
                  refine iteF ?_
                  walk_at "w_go"
                  rename_i q7 H7 n7 s7 e7
                  exact kS' _ _ _ _ _ hT _ _ ((s5.trans s6).trans s7) (s5.free (s6.free n7)) e7
                | cons h9 t9 =>
                  refine iteT' (ex _ _) ?_
                  walk_at "w_go"
                  exact kN' hT _ (s5.trans s6)
              · refine iteT' (by simp [c2]) ?_
                walk_at "w_go"
                exact kN' (by rw [hT, if_neg (fun z => c2 z.2)]) _ s5
            · refine iteT' (by simp [c1]) ?_
              walk_at "w_go"
              exact kN' (by rw [hT, if_neg (fun z => c1 (by simpa using z.1))]) _ s5
          · walk_at "w_go"
            refine iteT' (ex _ _) ?_
            walk_at "w_go"
            rename_i h2
            exact kN' (hT.trans (tail_N (fun z => h2 (by rw [List.length_map, z]; rfl)))) _ (Same.refl _)
        · intro N hN
          walk_at "w_br"
          · rename_i h3
            obtain ⟨m, b, a, hw⟩ := len3 (l := Txt.split p0 sp1) (by rw [List.length_map] at h3; omega)
            have hT := splitT_head3 e0 hsp hw
            rw [hw] at h04
            replace h04 : H4 a0 = some (.lst [.str m, .str b, .str a]) := h04
            walk_at "w_go"
            refine r_ixLK (by walk_at "w_hp") at0 ?_
            walk_at "w_go"
            refine r_slT (T.c_MARKS _) (by decide) (fun q5 H5 n5 s5 e5 => ?_)
            replace e5 : H5 q5 = some (.tup ((["way", "lasting"] : List Str).map V.str)) := e5
            refine r_inSN (.inr (.of e5)) ?_
            walk_at "w_go"
            by_cases c1 : m ∈ (["way", "lasting"] : List Str)
            · refine iteF' (by simp [c1]) ?_
              walk_at "w_go"
              refine r_inSN (.inr (T.c_BY _)) ?_
              walk_at "w_go"
              by_cases c2 : b ∈ BYl
              · refine iteF' (by simp [c2]) ?_
                walk_at "w_go"
                refine r_inSN (.inr (T.c_ACTS _)) ?_
                walk_at "w_go"
                by_cases c3 : a ∈ ACTSl
                · refine iteF' (by simp [c3]) ?_
                  walk_at "w_go"
                  rename_i q6 H6 n6 s6 e6
                  rw [cut_tail] at e6
                  rw [if_pos ⟨by simpa using c1, c2, c3⟩] at hT
                  exact hN _ _ ⟨q6, m, b, a, r, rfl, (hs4.trans s5).trans s6, PartsAt.same ⟨ys, e6, ht4.mono fun p v ⟨a, z1, z2⟩ => ⟨a, z1, s6 _ _ (s5 _ _ z2)⟩⟩ (Same.refl _), by omega, hT⟩
                · refine iteT' (by simp [c3]) ?_
                  walk_at "w_go"
                  exact kN (hT.trans (if_neg (fun z => c3 z.2.2))) _ (hs4.trans s5)
              · refine iteT' (by simp [c2]) ?_
                walk_at "w_go"
                exact kN (hT.trans (if_neg (fun z => c2 z.2.1))) _ (hs4.trans s5)
            · refine iteT' (by simp [c1]) ?_
              walk_at "w_go"
              exact kN (hT.trans (if_neg (fun z => c1 (by simpa using z.1)))) _ (hs4.trans s5)
          · rename_i h3
            refine hN _ _ ⟨L, _, _, _, p0 :: r, rfl, hs4, ⟨_, eL4, .cons ⟨a0, rfl, h04⟩ ht4⟩, by simp only [List.length_cons]; omega, splitT_headN e0 hsp (fun z => h3 (by rw [List.length_map, z]; rfl))⟩
end
end Wm
namespace Wm
open PySem L2

section
variable {P : Program} {w : World} {K : PySem.W.Frag} {mg : Str → Option Value} {base : Heap} {ad : Ad}
theorem ok_Guard_str (T : Txt P K mg ad) : FnOk P w K mg base (L2.CX P w) 2 ad.Guard_str ad.fd_Guard_str ["self"] (spStr ad) := by
  refine T.F_Guard_str.okX sc_Guard_str (fun vs H Q E h => ?_) (fun cdv A outer s H vs Q E hr h => ?_)
  · obtain ⟨a, dx, m, t, b, k, e, rfl, _⟩ := h
    rfl
  obtain ⟨a, dx, m, t, b, k, e, rfl, ha, ⟨l1, l2, l3, l4, l5⟩, kQ⟩ := h
  refine ⟨_, (pss_cons (ps_set (i := 1) sc_Guard_str.nd rfl (Or.inl rfl) (pe_lst pa_nil))
    (pss_cons (ps_if (pt_cmpR op_ne (pe_fld (pv 0) rfl) pe_str (nomark _)) (pss_one (ps_expr (pe_bm PySem.F.plainAttrs_list PySem.F.slot_list_append PySem.F.type_list_append mt_append (pv 1) (pa_cons (pe_joinedD (PJ.cons (pe_fmt (pe_fld (pv 0) rfl)) (PJ.cons pe_str (PJ.cons (pe_fmt (pe_fld (pv 0) rfl)) (PJ.cons pe_str (PJ.cons (pe_fmt (pe_fld (pv 0) rfl)) PJ.nil)))))) pa_nil)))) pss_nil)
    (pss_cons (ps_if (pt_cmpR op_ne (pe_fld (pv 0) rfl) pe_str (nomark _)) (pss_one (ps_expr (pe_bm PySem.F.plainAttrs_list PySem.F.slot_list_append PySem.F.type_list_append mt_append (pv 1) (pa_cons (pe_joinedD (PJ.cons (pe_fmt (pe_fld (pv 0) rfl)) (PJ.cons pe_str (PJ.cons (pe_fmt (pe_fld (pv 0) rfl)) PJ.nil)))) pa_nil)))) pss_nil)
    (pss_cons (ps_if (pt_cmpR op_eq (pe_callB c_len (by rfl) T.n_len PySem.boot_len (pa_cons (pv 1) pa_nil)) pe_int (nomark _)) (pss_one (ps_ret pe_str)) pss_nil)
    (pss_one (ps_ret (pe_bm PySem.F.plainAttrs_str PySem.F.slot_str_join PySem.F.type_str_join mtJoin pe_str (pa_cons (pv 1) pa_nil)))))))), ?_⟩
  rw [show L2.start ["self", "parts"] [V.ref a] = [some (V.ref a), none] from rfl]
  have cl := T.ow_Guard.cl
  have f1 := T.no_Guard_mark
  have f2 := T.no_Guard_act
  have f3 := T.no_Guard_by
  have f4 := T.no_Guard_keep
  have f5 := T.no_Guard_keep_by
  replace ha : H a = some (.ins ad.Guard dx [("mark", .str m), ("act", .str t), ("by", .str b), ("keep", .str k), ("keep_by", .str e)]) := ha
  walk_at "w_go"
  have js : ∀ {x y : Str}, x.length ≤ 40 → y.length ≤ 40 → ([x, y].map (·.length)).sum + [x, y].length * (Str.ofString ", ").length ≤ 16777216 := fun h1 h2 => by
    simp only [List.map_cons, List.map_nil, List.sum_cons, List.sum_nil, List.length_cons, List.length_nil, show (Str.ofString ", ").length = 2 from rfl]
    omega
  have j1 : ∀ {x : Str}, x.length ≤ 40 → ([x].map (·.length)).sum + [x].length * (Str.ofString ", ").length ≤ 16777216 := fun h1 => by
    simp only [List.map_cons, List.map_nil, List.sum_cons, List.sum_nil, List.length_cons, List.length_nil, show (Str.ofString ", ").length = 2 from rfl]
    omega
  have e1 : (Str.ofString " ").length = 1 := rfl
  have e0 : Str.empty.length = 0 := rfl
  have z1 : (Str.empty ++ m ++ Str.ofString " " ++ b ++ Str.ofString " " ++ t).length ≤ 40 := by
    simp only [Str.length_append, e0, e1]
    omega
  have z2 : (Str.empty ++ k ++ Str.ofString " " ++ e).length ≤ 40 := by
    simp only [Str.length_append, e0, e1]
    omega
  have kF : ∀ {y : Str}, strT m b t k e = y → ∀ H', Same H H' → Q (.str y) H' := fun e H' s => e ▸ kQ H' s
  by_cases hm : m = "none"
  · by_cases hk : k = "none"
    · refine iteF' (by simp [hm]) ?_
      walk_at "w_go"
      refine iteF' (by simp [hk]) ?_
      walk_at "w_go"
      refine iteT' rfl ?_
      walk_at "w_go"
      show Q _ _
      refine kF ?_ _ ?_
      · unfold strT; rw [if_pos hm, if_pos hk]
      · assumption
    · refine iteF' (by simp [hm]) ?_
      walk_at "w_go"
      refine iteT' (by simp [hk]) ?_
      walk_at "w_go"
      refine iteF' rfl ?_
      walk_at "w_go"
      refine r_join [_] upd_same rfl (j1 z2) ?_
      show Q _ _
      refine kF ?_ _ ?_
      · unfold strT; rw [if_pos hm, if_neg hk]
      · walk_at "w_same"
  · by_cases hk : k = "none"
    · refine iteT' (by simp [hm]) ?_
      walk_at "w_go"
      refine iteF' (by simp [hk]) ?_
      walk_at "w_go"
      refine iteF' rfl ?_
      walk_at "w_go"
      refine r_join [_] upd_same rfl (j1 z1) ?_
      show Q _ _
      refine kF ?_ _ ?_
      · unfold strT; rw [if_neg hm, if_pos hk]
      · walk_at "w_same"
    · refine iteT' (by simp [hm]) ?_
      walk_at "w_go"
      refine iteT' (by simp [hk]) ?_
      walk_at "w_go"
      refine iteF' rfl ?_
      walk_at "w_go"
      refine r_join [_, _] upd_same rfl (js z1 z2) ?_
      show Q _ _
      refine kF ?_ _ ?_
      · unfold strT; rw [if_neg hm, if_neg hk]
      · walk_at "w_same"
end
end Wm
namespace Wm
open PySem L2

section
variable {P : Program} {w : World} {K : PySem.W.Frag} {mg : Str → Option Value} {base : Heap} {ad : Ad}
theorem ok_Guard_read (T : Txt P K mg ad) : FnOk P w K mg base (L2.CX P w) 5 ad.Guard_read ad.fd_Guard_read ["cls", "text"] (spRead ad) := by
  refine T.F_Guard_read.okX sc_Guard_read (fun vs H Q E h => ?_) (fun cdv A outer s H vs Q E hr h => ?_)
  · obtain ⟨v, rfl, _⟩ := h
    rfl
  obtain ⟨v, rfl, hv, hz, kN, kS⟩ := h
  obtain ⟨gA, hbAll⟩ := kb_all T.F_Guard_init
  refine ⟨_, (pss_cons (ps_set (i := 2) sc_Guard_read.nd rfl (Or.inl rfl) (pe_call (ok_split_text T) (hr.mono (by decide)) rfl T.g_split_text T.F_split_text.kp T.b_split_text .nil passL (pa_cons (pv 1) pa_nil)))
    (pss_cons (ps_if (pt_cmpR op_isNn (pv 2) pe_non (nomark _)) (pss_one (ps_raiseEr rfl T.er_BadText hr (takes_of rfl rfl rfl rfl) T.g_BadText (pa_cons pe_int pa_nil))) pss_nil)
    (pss_cons (ps_asg (pv 2) (pg_tup rfl (pgs_cons (pg_name (i := 3) sc_Guard_read.nd rfl (Or.inl rfl)) (pgs_cons (pg_name (i := 4) sc_Guard_read.nd rfl (Or.inl rfl)) (pgs_cons (pg_name (i := 5) sc_Guard_read.nd rfl (Or.inl rfl)) (pgs_cons (pg_name (i := 6) sc_Guard_read.nd rfl (Or.inl rfl)) (pgs_cons (pg_name (i := 7) sc_Guard_read.nd rfl (Or.inl rfl)) pgs_nil)))))))
    (pss_one (ps_ret (pe_makeKL (i := 0) T.mk_Guard (ok_Guard_init T) hr rfl (by first | exact Or.inl rfl | exact Or.inr (Or.inl rfl)) hbAll passL (pa_cons (pv 3) pa_nil) (pk_cons (pv 5) (pk_cons (pv 4) (pk_cons (pv 6) (pk_cons (pv 7) pk_nil)))))))))), ?_⟩
  rw [show L2.start ["cls", "text", "words", "mark", "by", "act", "keep", "keep_by"] [V.ref ad.Guard, v] = [some (V.ref ad.Guard), some (v), none, none, none, none, none, none] from rfl]
  walk_at "w_go"
  refine ⟨v, rfl, hv, hz, fun h0 H1 s1 => ?_, fun m b a k e h5 r H1 s1 n1 e1 => ?_⟩
  · walk_at "w_go"
    refine iteT' (by simp) ?_
    walk_at "w_go"
    rename_i d H2 n2 s2 e2
    exact kN h0 _ _ (s1.trans s2) (s1.free n2) e2
  · walk_at "w_go"
    refine iteF' (by simp) ?_
    walk_at "w_go"
    have ok : Ok5 m a b k e := by
      cases v with
      | str t => exact split_ok (t := t) h5
      | _ => cases h5
    rename_i x dx H2 n2 s2 e2
    refine sp_initG e2 ok.1 ok.2.1 ok.2.2.1 ok.2.2.2.1 ok.2.2.2.2 (fun H3 keep e3 => ?_)
    exact ⟨rfl, kS _ _ _ _ _ h5 x dx H3 (same_but (s1.free n2) (s1.trans s2) keep) (s1.free n2) e3⟩
end
end Wm
namespace Wm
open PySem L2

section
variable {P : Program} {w : World} {K : PySem.W.Frag} {mg : Str → Option Value} {base : Heap} {ad : Ad}
theorem ok_l_read (T : Txt P K mg ad) : FnOk P w K mg base (L2.CX P w) 6 ad.l_read ad.fd_l_read ["_law_text"] spLRead := by
  refine T.F_l_read.okX sc_l_read (fun vs H Q E h => ?_) (fun cdv A outer s H vs Q E hr h => ?_)
  · obtain ⟨v, rfl, _⟩ := h
    rfl
  obtain ⟨v, rfl, hv, hz, kN, kS⟩ := h
  refine ⟨_, (pss_cons (ps_try_as (i := 2) rfl rfl sc_l_read.nd rfl rfl ⟨rfl, by decide, .inl T.g_BadText⟩ takes0 (fun W pn xe tk pown => (pss_one (ps_set (i := 1) sc_l_read.nd rfl (Or.inl rfl) (pe_cmethT (pe_glob (v := .ref ad.Guard) rfl T.g_Guard rfl) T.cr_Guard T.cm_Guard_read ((ok_Guard_read T).raw T.b_Guard_read .nil) hr (fun σ => passAt tk σ) (pa_cons (pv 0) pa_nil))))) (fun a oe cls d pn hz hf => (pss_one (ps_ret (pe_lst (pa_cons pe_str (pa_cons (pe_xf T.xf_BadText T.no_BadText_line hz hf (pv 2)) pa_nil)))))))
    (pss_one (ps_ret (pe_lst (pa_cons (pe_fld (pv 1) rfl) (pa_cons (pe_fld (pv 1) rfl) (pa_cons (pe_fld (pv 1) rfl) (pa_cons (pe_fld (pv 1) rfl) (pa_cons (pe_fld (pv 1) rfl) (pa_cons (pe_callTy (c_strOwn (ok_Guard_str T) (hr.mono (by decide)) T.me_Guard_str T.b_Guard_str passL) (by rfl) T.n_str (by decide +kernel) (pa_cons (pv 1) pa_nil)) pa_nil)))))))))), ?_⟩
  rw [show L2.start ["_law_text", "_law_made", "e"] [v] = [some (v), none, none] from rfl]
  have cl := T.ow_Guard.cl
  have f1 := T.no_Guard_mark
  have f2 := T.no_Guard_act
  have f3 := T.no_Guard_by
  have f4 := T.no_Guard_keep
  have f5 := T.no_Guard_keep_by
  walk_at "w_go"
  refine ⟨v, rfl, hv, hz, fun h0 d H1 s1 n1 e1 => ?_, fun m b a k e h5 g dx H1 s1 n1 e1 => ?_⟩
  · refine ⟨true, T.te_BadText, fun _ a1 na1 => ?_, fun z => by cases z⟩
    walk_at "w_go"
    rename_i q2 H2 n2 s2 e2
    exact kN h0 _ _ (s1.trans s2) (s1.free n2) e2
  · have ok : Ok5 m a b k e := by
      cases v with
      | str t => exact split_ok (t := t) h5
      | _ => cases h5
    obtain ⟨m', a', b', k', e', hp, ok'⟩ := ok_plain ok
    have kS := kS _ _ _ _ _ h5
    rw [hp] at e1 kS
    have sh := ok_short ok'
    have e1' : H1 g = some (.ins ad.Guard dx [("mark", .str m'), ("act", .str a'), ("by", .str b'), ("keep", .str k'), ("keep_by", .str e')]) := e1
    walk_at "w_go"
    refine r_strOwn e1 ⟨g, dx, m', a', b', k', e', rfl, e1, sh, fun H2 s2 => ?_⟩
    walk_at "w_go"
    rename_i q3 H3 n3 s3 e3
    exact kS _ _ ((s1.trans s2).trans s3) (s1.free (s2.free n3)) e3
end
end Wm
namespace Wm
open PySem L2

section
variable {P : Program} {w : World} {K : PySem.W.Frag} {mg : Str → Option Value} {base : Heap} {ad : Ad}
theorem ok_l_guard_of (T : Txt P K mg ad) : FnOk P w K mg base (L2.CX P w) 2 ad.l_guard_of ad.fd_l_guard_of ["_law_text"] spGuardOf := by
  refine T.F_l_guard_of.okX sc_l_guard_of (fun vs H Q E h => ?_) (fun cdv A outer s H vs Q E hr h => ?_)
  · obtain ⟨t, rfl, _⟩ := h
    rfl
  obtain ⟨t, rfl, hz, kQ⟩ := h
  refine ⟨_, (pss_cons (ps_set (i := 1) sc_l_guard_of.nd rfl (Or.inl rfl) (pe_lst (pa_cons pe_str (pa_cons pe_str (pa_cons pe_str (pa_cons pe_str (pa_cons pe_str pa_nil)))))))
    (pss_cons (ps_for (passes_of rfl) rfl (pi_list (pe_bm PySem.F.plainAttrs_str PySem.F.slot_str_split PySem.F.type_str_split mtSplit (pv 0) (pa_cons pe_str pa_nil))) (pg_name (i := 2) sc_l_guard_of.nd rfl (Or.inl rfl)) (pss_cons (ps_set (i := 3) sc_l_guard_of.nd rfl (Or.inl rfl) (pe_bm PySem.F.plainAttrs_str PySem.F.slot_str_split PySem.F.type_str_split mtSplit (pv 2) (pa_cons pe_str pa_nil)))
    (pss_cons (ps_if (pt_cmpR op_eq (pe_callB c_len (by rfl) T.n_len PySem.boot_len (pa_cons (pv 3) pa_nil)) pe_int (nomark _)) (pss_cons (ps_asg (pe_ix ix_list (pv 3) pe_int (fun _ _ => rfl)) (pg_sub (pv 1) pe_int set_list))
    (pss_cons (ps_asg (pe_ix ix_list (pv 3) pe_int (fun _ _ => rfl)) (pg_sub (pv 1) pe_int set_list))
    (pss_one (ps_asg (pe_ix ix_list (pv 3) pe_int (fun _ _ => rfl)) (pg_sub (pv 1) pe_int set_list))))) pss_nil)
    (pss_one (ps_if (pt_cmpR op_eq (pe_callB c_len (by rfl) T.n_len PySem.boot_len (pa_cons (pv 3) pa_nil)) pe_int (nomark _)) (pss_cons (ps_asg (pe_ix ix_list (pv 3) pe_int (fun _ _ => rfl)) (pg_sub (pv 1) pe_int set_list))
    (pss_one (ps_asg (pe_ix ix_list (pv 3) pe_int (fun _ _ => rfl)) (pg_sub (pv 1) pe_int set_list)))) pss_nil)))))
    (pss_one (ps_ret (pv 1))))), ?_⟩
  rw [show L2.start ["_law_text", "_law_five", "_law_piece", "_law_words"] [V.str t] = [some (V.str t), none, none, none] from rfl]
  walk_at "w_go"
  rename_i F H1 n1 s1 e1 q H2 n2 s2 e2
  have hqF : q ≠ F := (ne_of_none e1 n2).symm
  refine r_ilK (.of e2) (for_list (K := K) (a := q) (xs := (Txt.split t ", ").map V.str) (fun i σ H' => ∃ v w, σ = [some (.str t), some (.ref F), v, w] ∧ Same H H' ∧ H' q = some (.lst ((Txt.split t ", ").map V.str)) ∧ H' F = some (.lst ((l5 (((Txt.split t ", ").take i).foldl gstep ("none", "ring", "same", "none", "same"))).map V.str))) ⟨none, none, rfl, s1.trans s2, e2, s2 _ _ e1⟩ ?_ ?_ ?_)
  · rintro i σ H' _ ⟨v, w, rfl, hs, hq, hF⟩
    exact .of hq
  · rintro i x σ H' hi ⟨v, w, rfl, hs, hq, hF⟩
    obtain ⟨p, rfl, hp⟩ := str_ix hi
    have hpl := piece_len (List.mem_of_getElem? hp)
    rw [take_fold hp]
    generalize ((Txt.split t ", ").take i).foldl gstep ("none", "ring", "same", "none", "same") = f at hF ⊢
    obtain ⟨m, a, b, k, e⟩ := f
    replace hF : H' F = some (.lst [.str m, .str a, .str b, .str k, .str e]) := hF
    walk_at "w_go"
    rename_i W H3 n3 s3 e3
    have hF3 := s3 _ _ hF
    have hq3 := s3 _ _ hq
    have hs3 := hs.trans s3
    clear hq hs s3 e2 s2 s1
    walk_at "w_br"
    · rename_i h3
      obtain ⟨x, y, z, hw⟩ := len3 (l := Txt.split p " ") (by rw [List.length_map] at h3; omega)
      rw [hw] at e3
      replace e3 : H3 W = some (.lst [.str x, .str y, .str z]) := e3
      have nWF : W ≠ F := (ne_of_none hF n3).symm
      walk_at "w_go"
      refine iteF' rfl ?_
      walk_at "w_go"
      refine ⟨_, _, rfl, ?_, ?_, ?_⟩
      · walk_at "w_same"
      · walk_at "w_hp"
      · show _ = some (HO.lst (List.map V.str (l5 (gstep (m, a, b, k, e) p))))
        unfold gstep
        rw [hw]
        exact upd_same
    · rename_i h3
      walk_at "w_go"
      walk_at "w_br"
      · rename_i h2
        obtain ⟨x, y, hw⟩ := len2 (l := Txt.split p " ") (by rw [List.length_map] at h2; omega)
        rw [hw] at e3
        replace e3 : H3 W = some (.lst [.str x, .str y]) := e3
        have nWF : W ≠ F := (ne_of_none hF n3).symm
        walk_at "w_go"
        refine ⟨_, _, rfl, ?_, ?_, ?_⟩
        · walk_at "w_same"
        · walk_at "w_hp"
        · show _ = some (HO.lst (List.map V.str (l5 (gstep (m, a, b, k, e) p))))
          unfold gstep
          rw [hw]
          exact upd_same
      · rename_i h2
        walk_at "w_go"
        refine ⟨_, _, rfl, hs3, hq3, ?_⟩
        have hg : gstep (m, a, b, k, e) p = (m, a, b, k, e) := by
          unfold gstep
          rw [List.length_map] at h2 h3
          rcases hw : Txt.split p " " with _ | ⟨x, _ | ⟨y, _ | ⟨z, _ | ⟨u, l⟩⟩⟩⟩
          · rfl
          · rfl
          · rw [hw] at h2
            exact absurd rfl h2
          · rw [hw] at h3
            exact absurd rfl h3
          · rfl
        rw [hg]
        exact hF3
  · rintro σ H' ⟨v, w, rfl, hs, hq, hF⟩
    walk_at "w_go"
    refine kQ _ _ hs n1 ?_
    rw [List.length_map, List.take_length] at hF
    exact hF
end
end Wm
namespace Wm
open PySem L2

section
variable {P : Program} {w : World} {K : PySem.W.Frag} {mg : Str → Option Value} {base : Heap} {ad : Ad}
theorem ok_l_changed (T : Txt P K mg ad) : FnOk P w K mg base (L2.CX P w) 3 ad.l_changed ad.fd_l_changed ["_law_pen_here", "_law_text"] spChanged := by
  refine T.F_l_changed.okX sc_l_changed (fun vs H Q E h => ?_) (fun cdv A outer s H vs Q E hr h => ?_)
  · obtain ⟨p, c, t, rfl, _⟩ := h
    rfl
  obtain ⟨p, c, t, rfl, hp, hz, kQ⟩ := h
  refine ⟨_, (pss_cons (ps_set (i := 2) sc_l_changed.nd rfl (Or.inl rfl) (pe_lst (pa_cons pe_str (pa_cons pe_str (pa_cons pe_str (pa_cons pe_str (pa_cons pe_str (pa_cons pe_str (pa_cons pe_str (pa_cons pe_str (pa_cons pe_str (pa_cons pe_str (pa_cons pe_str (pa_cons pe_str (pa_cons pe_str pa_nil)))))))))))))))
    (pss_cons (ps_expr (pe_bm PySem.F.plainAttrs_list PySem.F.slot_list_append PySem.F.type_list_append mt_append (pv 2) (pa_cons pe_str pa_nil)))
    (pss_cons (ps_set (i := 3) sc_l_changed.nd rfl (Or.inl rfl) (pe_call (ok_l_take T) hr rfl T.g_l_take T.F_l_take.kp T.b_l_take .nil passL (pa_cons (pv 0) (pa_cons (pe_op op_add (pe_callB c_lenS (by rfl) T.n_len PySem.boot_len (pa_cons (pv 1) pa_nil)) pe_int) pa_nil))))
    (pss_cons (ps_set (i := 4) sc_l_changed.nd rfl (Or.inl rfl) (pe_ix ix_list (pe_lst (pa_cons pe_int (pa_cons pe_int (pa_cons pe_int (pa_cons pe_int (pa_cons pe_int (pa_cons pe_int pa_nil))))))) (pe_call (ok_l_take T) hr rfl T.g_l_take T.F_l_take.kp T.b_l_take .nil passL (pa_cons (pv 0) (pa_cons pe_int pa_nil))) (fun _ _ => rfl)))
    (pss_one (ps_ret (pe_op op_addS (pe_op op_addS (pe_slice sl_str (pv 1) po_none (po_some (pv 3))) (pe_ix ix_list (pv 2) (pe_call (ok_l_take T) hr rfl T.g_l_take T.F_l_take.kp T.b_l_take .nil passL (pa_cons (pv 0) (pa_cons pe_int pa_nil))) (fun _ _ => rfl))) (pe_slice sl_str (pv 1) (po_some (pe_op op_add (pv 3) (pv 4))) po_none)))))))), ?_⟩
  rw [show L2.start ["_law_pen_here", "_law_text", "_law_pieces", "_law_at", "_law_width"] [V.ref p, V.str t] = [some (V.ref p), some (V.str t), none, none, none] from rfl]
  walk_at "w_go"
  rename_i q H1 n1 s1 e1
  refine r_take (by walk_at "w_pen") (by omega) (by omega) (fun r G1 h0 h1 t1 => ?_)
  walk_at "w_go"
  rename_i q2 H2 n2 s2 e2
  have hp2 : PenAt H2 p c := t1.pen.same s2
  have eq1 : upd H1 q (.lst ((["", " ", ",", ", ", "a", "none", "way", "same", "ahead same", "ring", "N", "\n", "equal", "lasting same skip"] : List Str).map V.str)) q = some (.lst ((["", " ", ",", ", ", "a", "none", "way", "same", "ahead same", "ring", "N", "\n", "equal", "lasting same skip"] : List Str).map V.str)) := upd_same
  have nqp : q ≠ p := (hp.ne_new n1).1.symm
  have eq2 : H2 q = some (.lst ((["", " ", ",", ", ", "a", "none", "way", "same", "ahead same", "ring", "N", "\n", "equal", "lasting same skip"] : List Str).map V.str)) := s2 _ _ (t1.keep _ _ nqp eq1)
  have t2 : PenStep p c H H2 := ((PenStep.same (PenStep.refl hp) s1).put hp n1 |>.trans t1).same s2
  clear t1 s2 eq1 e1 s1
  refine r_take hp2 (by omega) (by omega) (fun r3 G3 h3 h4 t3 => ?_)
  walk_at "w_go"
  refine r_anyIx (by walk_at "w_hp") h3 h4 (by rfl) (fun v hv => ?_)
  obtain ⟨w, rfl⟩ : ∃ w, v = .int w := by
    simp only [List.mem_cons, List.not_mem_nil, or_false] at hv
    rcases hv with rfl | rfl | rfl | rfl | rfl | rfl <;> exact ⟨_, rfl⟩
  walk_at "w_go"
  refine r_take t3.pen (by omega) (by omega) (fun r5 G5 h5 h6 t5 => ?_)
  walk_at "w_go"
  refine r_pick ["", " ", ",", ", ", "a", "none", "way", "same", "ahead same", "ring", "N", "\n", "equal", "lasting same skip"] (t5.keep _ _ nqp (t3.keep _ _ nqp eq2)) rfl h5 h6 (fun a ha => ?_)
  have la : a.length ≤ 20 := all_len (by decide) ha
  have c1 := cutS_length t none (some r)
  refine r_addS (by rw [PySem.sizeLine_eq]; omega) ?_
  walk_at "w_go"
  have c2 := cutS_length t (some (r + w)) none
  refine r_addS (by rw [PySem.sizeLine_eq, Str.length_append]; omega) ?_
  walk_at "w_go"
  refine kQ _ _ ((t2.trans t3).trans t5) ?_
  rw [Str.length_append, Str.length_append]
  omega
end
end Wm
namespace Wm
open PySem L2

section
variable {P : Program} {w : World} {K : PySem.W.Frag} {mg : Str → Option Value} {base : Heap} {ad : Ad}
def mk3 (w o : Str) : List Str := (["ring", "skip", "refuse"] : List Str).map fun d => w ++ " " ++ o ++ " " ++ d
def mk2 (w : Str) : List Str := (["same", "equal"] : List Str).flatMap (mk3 w)
def kp2 (w : Str) : List Str := (["same", "equal"] : List Str).map fun o => w ++ " " ++ o
def fd2 (m : Str) : List Str := keepsL.map fun k => m ++ ", " ++ k
theorem marks_len : marksL.all (fun y => decide (y.length ≤ 40)) = true := by decide +kernel
theorem keeps_len : keepsL.all (fun y => decide (y.length ≤ 40)) = true := by decide +kernel
theorem marks_count : marksL.length = 12 := by decide +kernel
theorem keeps_count : keepsL.length = 4 := by decide +kernel
theorem marks_eq : (["way", "lasting"] : List Str).flatMap mk2 = marksL := rfl
theorem keeps_eq : (["ahead", "behind"] : List Str).flatMap kp2 = keepsL := rfl
theorem every_eq : ((["none"] : List Str) ++ marksL.flatMap fd2) ++ marksL ++ keepsL = everyL := rfl
theorem flat_len {f : Str → List Str} {n k : Nat} (h : ∀ x, (f x).length = k) : ∀ {l : List Str}, l.length ≤ n → (l.flatMap f).length ≤ n * k
  | [], _ => Nat.zero_le _
  | x :: l, hl => by
    cases n with
    | zero => simp at hl
    | succ n =>
      have ih := flat_len (n := n) h (l := l) (by simpa using hl)
      rw [List.flatMap_cons, List.length_append, h, Nat.succ_mul]
      omega
theorem ok_l_every (T : Txt P K mg ad) : FnOk P w K mg base (L2.CX P w) 2 ad.l_every ad.fd_l_every [] spEvery := by
  refine T.F_l_every.okX sc_l_every (fun vs H Q E h => ?_) (fun cdv A outer s H vs Q E hr h => ?_)
  · obtain ⟨rfl, _⟩ := h
    rfl
  obtain ⟨rfl, kQ⟩ := h
  refine ⟨_, (pss_cons (ps_set (i := 0) sc_l_every.nd rfl (Or.inl rfl) (pe_lst (pa_cons pe_str pa_nil)))
    (pss_cons (ps_set (i := 1) sc_l_every.nd rfl (Or.inl rfl) (pe_lst pa_nil))
    (pss_cons (ps_set (i := 2) sc_l_every.nd rfl (Or.inl rfl) (pe_lst pa_nil))
    (pss_cons (ps_for (passes_of rfl) rfl (pi_list (pe_lst (pa_cons pe_str (pa_cons pe_str pa_nil)))) (pg_name (i := 3) sc_l_every.nd rfl (Or.inr rfl)) (pss_one (ps_for (passes_of rfl) rfl (pi_list (pe_lst (pa_cons pe_str (pa_cons pe_str pa_nil)))) (pg_name (i := 4) sc_l_every.nd rfl (Or.inr rfl)) (pss_one (ps_set (i := 1) sc_l_every.nd rfl (Or.inl rfl) (pe_op op_cat (pv 1) (pe_lc (own := [("_law_deed", 5)]) (g := gName 5) (tt := tYes) rfl sc_l_every.nd (pi_list (pe_lst (pa_cons pe_str (pa_cons pe_str (pa_cons pe_str pa_nil))))) (blkOk_by (own := [("_law_deed", 5)]) (N := ["_law_found", "_law_marks", "_law_keeps", "_law_word", "_law_other", "_law_deed", "_law_mine"]) (sc := defScope s_l_every) (by decide +kernel)) (fun _ _ _ _ _ => pg_name (i := 5) sc_l_every.nd rfl (Or.inl rfl)) (fun _ _ _ _ _ => pts_nil) (fun _ _ _ _ _ => (pe_op op_addS (pe_op op_addS (pe_op op_addS (pe_op op_addS (pv 3) pe_str) (pv 4)) pe_str) (pv 5))))))))))
    (pss_cons (ps_for (passes_of rfl) rfl (pi_list (pe_lst (pa_cons pe_str (pa_cons pe_str pa_nil)))) (pg_name (i := 3) sc_l_every.nd rfl (Or.inr rfl)) (pss_one (ps_set (i := 2) sc_l_every.nd rfl (Or.inl rfl) (pe_op op_cat (pv 2) (pe_lc (own := [("_law_other", 4)]) (g := gName 4) (tt := tYes) rfl sc_l_every.nd (pi_list (pe_lst (pa_cons pe_str (pa_cons pe_str pa_nil)))) (blkOk_by (own := [("_law_other", 4)]) (N := ["_law_found", "_law_marks", "_law_keeps", "_law_word", "_law_other", "_law_deed", "_law_mine"]) (sc := defScope s_l_every) (by decide +kernel)) (fun _ _ _ _ _ => pg_name (i := 4) sc_l_every.nd rfl (Or.inl rfl)) (fun _ _ _ _ _ => pts_nil) (fun _ _ _ _ _ => (pe_op op_addS (pe_op op_addS (pv 3) pe_str) (pv 4))))))))
    (pss_cons (ps_for (passes_of rfl) rfl (pi_list (pv 1)) (pg_name (i := 6) sc_l_every.nd rfl (Or.inr rfl)) (pss_one (ps_set (i := 0) sc_l_every.nd rfl (Or.inl rfl) (pe_op op_cat (pv 0) (pe_lc (own := [("_law_other", 4)]) (g := gName 4) (tt := tYes) rfl sc_l_every.nd (pi_list (pv 2)) (blkOk_by (own := [("_law_other", 4)]) (N := ["_law_found", "_law_marks", "_law_keeps", "_law_word", "_law_other", "_law_deed", "_law_mine"]) (sc := defScope s_l_every) (by decide +kernel)) (fun _ _ _ _ _ => pg_name (i := 4) sc_l_every.nd rfl (Or.inl rfl)) (fun _ _ _ _ _ => pts_nil) (fun _ _ _ _ _ => (pe_op op_addS (pe_op op_addS (pv 6) pe_str) (pv 4))))))))
    (pss_one (ps_ret (pe_op op_cat (pe_op op_cat (pv 0) (pv 1)) (pv 2)))))))))), ?_⟩
  rw [show L2.start ["_law_found", "_law_marks", "_law_keeps", "_law_word", "_law_other", "_law_deed", "_law_mine"] [] = [none, none, none, none, none, none, none] from rfl]
  walk_at "w_go"
  have kc := keeps_count
  have mc := marks_count
  rename_i F H1 n1 s1 e1 M H2 n2 s2 e2 B H3 n3 s3 e3 q H4 n4 s4 e4
  have eF : H4 F = some (.lst [.str "none"]) := by walk_at "w_hp"
  have eM : H4 M = some (.lst []) := by walk_at "w_hp"
  have eB : H4 B = some (.lst []) := by walk_at "w_hp"
  have hs : Same H H4 := by walk_at "w_same"
  clear s1 s2 s3 s4 e1 e2 e3 n1 n2 n3 n4
  -- the marks
  refine r_ilK (.of e4) (for_list (K := K) (a := q) (xs := (["way", "lasting"] : List Str).map V.str) (fun i σ H' => ∃ M' v w, σ = [some (.ref F), some (.ref M'), some (.ref B), v, w, none, none] ∧ Same H H' ∧ H' q = some (.lst ((["way", "lasting"] : List Str).map V.str)) ∧ H' F = some (.lst [.str "none"]) ∧ H' B = some (.lst []) ∧ H' M' = some (.lst ((((["way", "lasting"] : List Str).take i).flatMap mk2).map V.str))) ⟨M, none, none, rfl, hs, e4, eF, eB, eM⟩ ?_ ?_ ?_)
  · rintro i σ H' _ ⟨M', v, w, rfl, hs, hq, hF, hB, hM⟩
    exact .of hq
  · rintro i x σ H' hi ⟨M', v, w, rfl, hs, hq, hF, hB, hM⟩
    obtain ⟨a, rfl, ha⟩ := str_ix hi
    have la : a.length ≤ 10 := all_len (by decide) (List.mem_of_getElem? ha)
    have lt : ((((["way", "lasting"] : List Str).take i).flatMap mk2)).length ≤ 20 := Nat.le_trans (flat_len (n := 2) (k := 6) (fun _ => rfl) (by rw [List.length_take]; exact Nat.min_le_right _ _)) (by decide)
    rw [take_flat ha]
    generalize (((["way", "lasting"] : List Str).take i).flatMap mk2) = acc at hM lt ⊢
    walk_at "w_go"
    rename_i q2 H5 n5 s5 e5
    refine r_ilK (.of e5) (for_list (K := K) (a := q2) (xs := (["same", "equal"] : List Str).map V.str) (fun j σ H'' => ∃ M' w, σ = [some (.ref F), some (.ref M'), some (.ref B), some (.str a), w, none, none] ∧ Same H5 H'' ∧ H'' M' = some (.lst ((acc ++ (((["same", "equal"] : List Str).take j).flatMap (mk3 a))).map V.str))) ⟨M', _, rfl, Same.refl _, by rw [List.take_zero, List.flatMap_nil, List.append_nil]; exact s5 _ _ hM⟩ ?_ ?_ ?_)
    · rintro j σ H'' _ ⟨M', w, rfl, hs6, hM⟩
      exact .of (hs6 _ _ e5)
    · rintro j x σ H'' hj ⟨M', w, rfl, hs6, hM⟩
      obtain ⟨o, rfl, ho⟩ := str_ix hj
      have lo : o.length ≤ 10 := all_len (by decide) (List.mem_of_getElem? ho)
      have lt2 : (((["same", "equal"] : List Str).take j).flatMap (mk3 a)).length ≤ 6 := flat_len (n := 2) (k := 3) (fun _ => rfl) (by rw [List.length_take]; exact Nat.min_le_right _ _)
      rw [take_flat ho, ← List.append_assoc]
      generalize (((["same", "equal"] : List Str).take j).flatMap (mk3 a)) = acc2 at hM lt2 ⊢
      walk_at "w_go"
      rename_i q3 H6 n6 s6 e6
      refine r_ilK (.of e6) (r_lcL (xs := (["ring", "skip", "refuse"] : List Str).map V.str) (fun _ => true) (liftS fun d => a ++ " " ++ o ++ " " ++ d) (.of e6) (by rw [PySem.sizeLine_eq]; decide) (fun k x hk => ?_) (fun q4 H7 n7 s7 e7 => ?_))
      · obtain ⟨d, rfl, hd⟩ := str_in hk
        have ld : d.length ≤ 10 := all_len (by decide) hd
        refine ⟨fun H' R _ q => q, fun H' R _ s q => ?_⟩
        walk_at "w_go"
        exact q
      · rw [lift_map] at e7
        walk_at "w_go"
        rename_i r H8 n8 s8 e8
        rw [← List.map_append] at e8
        exact ⟨_, _, rfl, ((hs6.trans s6).trans s7).trans s8, e8⟩
    · rintro σ H'' ⟨M', w, rfl, hs6, hM⟩
      walk_at "w_go"
      refine ⟨_, _, _, rfl, (hs.trans s5).trans hs6, hs6 _ _ (s5 _ _ hq), hs6 _ _ (s5 _ _ hF), hs6 _ _ (s5 _ _ hB), ?_⟩
      rw [show ((["same", "equal"] : List Str).map V.str).length = 2 from rfl] at hM
      exact hM
  · rintro σ H' ⟨M', v, w, rfl, hs, hq, hF, hB, hM⟩
    replace hM : H' M' = some (.lst (marksL.map V.str)) := hM
    clear hq e4
    walk_at "w_go"
    rename_i q2 H5 n5 s5 e5
    refine r_ilK (.of e5) (for_list (K := K) (a := q2) (xs := (["ahead", "behind"] : List Str).map V.str) (fun i σ H'' => ∃ B' v w, σ = [some (.ref F), some (.ref M'), some (.ref B'), v, w, none, none] ∧ Same H5 H'' ∧ H'' B' = some (.lst ((((["ahead", "behind"] : List Str).take i).flatMap kp2).map V.str))) ⟨B, v, w, rfl, Same.refl _, s5 _ _ hB⟩ ?_ ?_ ?_)
    · rintro j σ H'' _ ⟨B', v, w, rfl, hs6, hB⟩
      exact .of (hs6 _ _ e5)
    · rintro j x σ H'' hj ⟨B', v, w, rfl, hs6, hB⟩
      obtain ⟨a, rfl, ha⟩ := str_ix hj
      have la : a.length ≤ 10 := all_len (by decide) (List.mem_of_getElem? ha)
      have lt2 : (((["ahead", "behind"] : List Str).take j).flatMap kp2).length ≤ 4 := flat_len (n := 2) (k := 2) (fun _ => rfl) (by rw [List.length_take]; exact Nat.min_le_right _ _)
      rw [take_flat ha]
      generalize (((["ahead", "behind"] : List Str).take j).flatMap kp2) = acc2 at hB lt2 ⊢
      walk_at "w_go"
      rename_i q3 H6 n6 s6 e6
      refine r_ilK (.of e6) (r_lcL (xs := (["same", "equal"] : List Str).map V.str) (fun _ => true) (liftS fun o => a ++ " " ++ o) (.of e6) (by rw [PySem.sizeLine_eq]; decide) (fun k x hk => ?_) (fun q4 H7 n7 s7 e7 => ?_))
      · obtain ⟨d, rfl, hd⟩ := str_in hk
        have ld : d.length ≤ 10 := all_len (by decide) hd
        refine ⟨fun H' R _ q => q, fun H' R _ s q => ?_⟩
        walk_at "w_go"
        exact q
      · rw [lift_map] at e7
        walk_at "w_go"
        rename_i r H8 n8 s8 e8
        rw [← List.map_append] at e8
        exact ⟨_, _, _, rfl, ((hs6.trans s6).trans s7).trans s8, e8⟩
    · rintro σ H'' ⟨B', v, w, rfl, hs6, hB⟩
      replace hB : H'' B' = some (.lst (keepsL.map V.str)) := hB
      replace hM := hs6 _ _ (s5 _ _ hM)
      replace hF := hs6 _ _ (s5 _ _ hF)
      replace hs := (hs.trans s5).trans hs6
      clear hs6 s5 e5 n5
      walk_at "w_go"
      refine r_ilK (.of hM) (for_list (K := K) (a := M') (xs := marksL.map V.str) (fun i σ H1 => ∃ F' w u, σ = [some (.ref F'), some (.ref M'), some (.ref B'), v, w, none, u] ∧ Same H'' H1 ∧ H1 F' = some (.lst (((["none"] : List Str) ++ (marksL.take i).flatMap fd2).map V.str))) ⟨F, w, none, rfl, Same.refl _, hF⟩ ?_ ?_ ?_)
      · rintro j σ H1 _ ⟨F', w, u, rfl, hs6, hF⟩
        exact .of (hs6 _ _ hM)
      · rintro j x σ H1 hj ⟨F', w, u, rfl, hs6, hF⟩
        obtain ⟨m, rfl, hm⟩ := str_ix hj
        have lm : m.length ≤ 40 := all_len marks_len (List.mem_of_getElem? hm)
        have lt2 : ((marksL.take j).flatMap fd2).length ≤ 48 := flat_len (n := 12) (k := 4) (fun _ => by unfold fd2; rw [List.length_map]; exact keeps_count) (by rw [List.length_take, marks_count]; exact Nat.min_le_right _ _)
        rw [take_flat hm, ← List.append_assoc]
        generalize ((marksL.take j).flatMap fd2) = acc2 at hF lt2 ⊢
        walk_at "w_go"
        refine r_ilK (.of (hs6 _ _ hB)) (r_lcL (xs := keepsL.map V.str) (fun _ => true) (liftS fun o => m ++ ", " ++ o) (.of (hs6 _ _ hB)) (by rw [PySem.sizeLine_eq, List.length_map, keeps_count]; decide) (fun k x hk => ?_) (fun q4 H7 n7 s7 e7 => ?_))
        · obtain ⟨d, rfl, hd⟩ := str_in hk
          have ld : d.length ≤ 40 := all_len keeps_len hd
          refine ⟨fun H' R _ q => q, fun H' R _ s q => ?_⟩
          walk_at "w_go"
          exact q
        · rw [lift_map] at e7
          walk_at "w_go"
          rename_i r H8 n8 s8 e8
          rw [← List.map_append] at e8
          exact ⟨_, _, _, rfl, (hs6.trans s7).trans s8, e8⟩
      · rintro σ H1 ⟨F', w, u, rfl, hs6, hF⟩
        rw [List.length_map, List.take_length] at hF
        have lt2 : (marksL.flatMap fd2).length ≤ 48 := flat_len (n := 12) (k := 4) (fun _ => by unfold fd2; rw [List.length_map]; exact keeps_count) (by rw [marks_count]; exact Nat.le_refl _)
        walk_at "w_go"
        rename_i r1 H8 n8 s8 e8 r2 H9 n9 s9 e9
        rw [← List.map_append, ← List.map_append, every_eq] at e9
        exact kQ _ _ (((hs.trans hs6).trans s8).trans s9) (((hs.trans hs6).trans s8).free n9) e9
end
end Wm
namespace Wm
open PySem L2

def bd : Nat → Nat
  | 0 => 40
  | n + 1 => 2 * bd n + 20
theorem bd3 : ∀ n, n ≤ 3 → bd n ≤ 460 := by decide
theorem at_pm {xs : List V} {k : Nat} (h : k < xs.length) : ∃ z, z ∈ xs ∧ atI xs (0 + (k : Int) - 1) = some z := by
  unfold atI ixN
  by_cases h0 : k = 0
  · subst h0
    rw [if_neg (by omega), if_pos (by omega)]
    have e : ((0 : Int) + ((0 : Nat) : Int) - 1 + (xs.length : Nat)).toNat = xs.length - 1 := by omega
    rw [e]
    refine ⟨xs[xs.length - 1]'(by omega), List.getElem_mem _, ?_⟩
    simp
  · rw [if_pos (by omega), if_pos (by omega)]
    have e : ((0 : Int) + (k : Int) - 1).toNat = k - 1 := by omega
    rw [e]
    refine ⟨xs[k - 1]'(by omega), List.getElem_mem _, ?_⟩
    simp
theorem sum_le {L : Nat} : ∀ {ss : List Str}, (∀ s, s ∈ ss → s.length ≤ L) → (ss.map (·.length)).sum ≤ ss.length * L
  | [], _ => by simp
  | s :: ss, h => by
    have ih := sum_le (ss := ss) (fun x hx => h x (by simp [hx]))
    have h1 := h s (by simp)
    simp only [List.map_cons, List.sum_cons, List.length_cons, Nat.succ_mul]
    omega
theorem join_len {L : Nat} {ss : List Str} (h : ∀ s, s ∈ ss → s.length ≤ L) : (ss.map (·.length)).sum + ss.length * (Str.ofString ", ").length ≤ ss.length * (L + 2) := by
  have h1 := sum_le h
  rw [show (Str.ofString ", ").length = 2 from rfl, Nat.mul_add]
  omega
theorem txt_join (sep : Str) (ss : List Str) : Txt.join sep ss = Str.join sep ss := StrLaws.glued_eq_join sep ss
theorem txt_join_len (ss : List Str) : (Txt.join ", " ss).length ≤ (ss.map (·.length)).sum + ss.length * (Str.ofString ", ").length := by
  rw [txt_join]
  exact StrLaws.join_length_le _ _
section
open PySem.W PySem.SeqAt
variable {K : PySem.W.Frag} {H : Hp} {Q : VK}
theorem dp_bad {p : Addr} (h : H p = some (.lst [.str "bad", .int 0])) : Dp K H (.ref p) (.list [.str "bad", .int 0]) := .lst (.of h) (.cons (.str _) (.cons (.int _) .nil))
theorem r_eqBad {p q : Addr} (h : H p = some (.lst [.str "bad", .int 0])) (h' : H q = some (.lst [.str "bad", .int 0])) (k : Q (.bl true) H) : rEqP K (.ref p) (.ref q) H Q :=
  ⟨_, _, dp_bad h, dp_bad h', rfl, rfl, by decide, k⟩
theorem r_neBad {p q : Addr} (h : H p = some (.lst [.str "bad", .int 0])) (h' : H q = some (.lst [.str "bad", .int 0])) (k : Q (.bl false) H) : rNeP K (.ref p) (.ref q) H Q :=
  ⟨_, _, dp_bad h, dp_bad h', rfl, rfl, by decide, k⟩
end
section
variable {P : Program} {w : World} {K : PySem.W.Frag} {mg : Str → Option Value} {base : Heap} {ad : Ad}
theorem ok_law (T : Txt P K mg ad) : FnOk P w K mg base (L2.CX P w) 7 ad.law ad.fd_law ["_law_script"] (spLaw K) := by
  refine T.F_law.okX sc_law (fun vs H Q E h => ?_) (fun cdv A outer s H vs Q E hr h => ?_)
  · obtain ⟨a, ns, rfl, _⟩ := h
    rfl
  obtain ⟨a, ns, rfl, hS, k⟩ := h
  obtain ⟨gA, hbAll⟩ := kb_all T.F_Guard_init
  refine ⟨_, (pss_cons (ps_set (i := 1) sc_law.nd rfl (Or.inl rfl) (pe_call (ok_l_pen T) (hr.mono (by decide)) rfl T.g_l_pen T.F_l_pen.kp T.b_l_pen .nil passL (pa_cons (pv 0) pa_nil)))
    (pss_cons (ps_set (i := 2) sc_law.nd rfl (Or.inl rfl) (pe_call0 (ok_l_every T) (hr.mono (by decide)) rfl T.g_l_every T.F_l_every.kp T.b_l_every .nil passL))
    (pss_cons (ps_set (i := 3) sc_law.nd rfl (Or.inl rfl) (pe_ix ix_list (pv 2) (pe_call (ok_l_take T) (hr.mono (by decide)) rfl T.g_l_take T.F_l_take.kp T.b_l_take .nil passL (pa_cons (pv 1) (pa_cons (pe_callB c_len (by rfl) T.n_len PySem.boot_len (pa_cons (pv 2) pa_nil)) pa_nil))) (fun _ _ => rfl)))
    (pss_cons (ps_set (i := 4) sc_law.nd rfl (Or.inl rfl) (pe_call (ok_l_guard_of T) (hr.mono (by decide)) rfl T.g_l_guard_of T.F_l_guard_of.kp T.b_l_guard_of .nil passL (pa_cons (pv 3) pa_nil)))
    (pss_cons (ps_if (pt_cmpR op_ne (pe_callTy (c_strOwn (ok_Guard_str T) (hr.mono (by decide)) T.me_Guard_str T.b_Guard_str passL) (by rfl) T.n_str (by decide +kernel) (pa_cons (pe_makeK T.mk_Guard (ok_Guard_init T) (hr.mono (by decide)) rfl T.g_Guard hbAll passL (pa_cons (pe_ix ix_list (pv 4) pe_int (fun _ _ => rfl)) pa_nil) (pk_cons (pe_ix ix_list (pv 4) pe_int (fun _ _ => rfl)) (pk_cons (pe_ix ix_list (pv 4) pe_int (fun _ _ => rfl)) (pk_cons (pe_ix ix_list (pv 4) pe_int (fun _ _ => rfl)) (pk_cons (pe_ix ix_list (pv 4) pe_int (fun _ _ => rfl)) pk_nil))))) pa_nil)) (pv 3) (nomark _)) (pss_one (ps_ret pe_bl)) pss_nil)
    (pss_cons (ps_if (pt_not (pt_cmpR (op_eqOwn (ok_Guard_eq T) (hr.mono (by decide)) T.me_Guard_eq T.b_Guard_eq passL) (ClX.pe_cmeth (pe_glob (v := .ref ad.Guard) rfl T.g_Guard rfl) T.cr_Guard T.cm_Guard_read ((ok_Guard_read T).raw T.b_Guard_read .nil) (hr.mono (by decide)) passL (pa_cons (pv 3) pa_nil)) (pe_makeK T.mk_Guard (ok_Guard_init T) (hr.mono (by decide)) rfl T.g_Guard hbAll passL (pa_cons (pe_ix ix_list (pv 4) pe_int (fun _ _ => rfl)) pa_nil) (pk_cons (pe_ix ix_list (pv 4) pe_int (fun _ _ => rfl)) (pk_cons (pe_ix ix_list (pv 4) pe_int (fun _ _ => rfl)) (pk_cons (pe_ix ix_list (pv 4) pe_int (fun _ _ => rfl)) (pk_cons (pe_ix ix_list (pv 4) pe_int (fun _ _ => rfl)) pk_nil))))) (nomark _))) (pss_one (ps_ret pe_bl)) pss_nil)
    (pss_cons (ps_for (passes_of rfl) rfl (pi_range1 rfl T.n_range (pa_cons pe_int pa_nil)) (pg_name (i := 5) sc_law.nd rfl (Or.inl rfl)) (pss_cons (ps_set (i := 6) sc_law.nd rfl (Or.inr rfl) (pe_ix ix_list (pv 2) (pe_call (ok_l_take T) (hr.mono (by decide)) rfl T.g_l_take T.F_l_take.kp T.b_l_take .nil passL (pa_cons (pv 1) (pa_cons (pe_callB c_len (by rfl) T.n_len PySem.boot_len (pa_cons (pv 2) pa_nil)) pa_nil))) (fun _ _ => rfl)))
    (pss_cons (ps_for (passes_of rfl) rfl (pi_range1 rfl T.n_range (pa_cons (pe_call (ok_l_take T) (hr.mono (by decide)) rfl T.g_l_take T.F_l_take.kp T.b_l_take .nil passL (pa_cons (pv 1) (pa_cons pe_int pa_nil))) pa_nil)) (pg_name (i := 7) sc_law.nd rfl (Or.inl rfl)) (pss_one (ps_set (i := 6) sc_law.nd rfl (Or.inr rfl) (pe_call (ok_l_changed T) (hr.mono (by decide)) rfl T.g_l_changed T.F_l_changed.kp T.b_l_changed .nil passL (pa_cons (pv 1) (pa_cons (pv 6) pa_nil))))))
    (pss_cons (ps_if (pt_val (pe_call (ok_l_bit T) (hr.mono (by decide)) rfl T.g_l_bit T.F_l_bit.kp T.b_l_bit .nil passL (pa_cons (pv 1) (pa_cons pe_int pa_nil)))) (pss_one (ps_set (i := 6) sc_law.nd rfl (Or.inr rfl) (pe_bm PySem.F.plainAttrs_str PySem.F.slot_str_join PySem.F.type_str_join mtJoin pe_str (pa_cons (pe_lc (own := [("_law_k", 7)]) (g := gName 7) (tt := tYes) rfl sc_law.nd (pi_range1 rfl T.n_range (pa_cons (pe_callB c_len (by rfl) T.n_len PySem.boot_len (pa_cons (pe_bm PySem.F.plainAttrs_str PySem.F.slot_str_split PySem.F.type_str_split mtSplit (pv 6) (pa_cons pe_str pa_nil)) pa_nil)) pa_nil)) (blkOk_by (own := [("_law_k", 7)]) (N := ["_law_script", "_law_pen_here", "_law_every_here", "_law_text", "_law_five", "_law_turn", "_law_other", "_law_k", "_law_odd"]) (sc := defScope s_law) (by decide +kernel)) (fun _ _ _ _ _ => pg_name (i := 7) sc_law.nd rfl (Or.inl rfl)) (fun _ _ _ _ _ => pts_nil) (fun _ _ _ _ _ => (pe_ix (ix_list : IxR _ (rIxL K)) (pe_bm PySem.F.plainAttrs_str PySem.F.slot_str_split PySem.F.type_str_split mtSplit (pv 6) (pa_cons pe_str pa_nil) : PE _ _ (tBM K _ _ _ _)) (pe_op op_sub (pv 7) pe_int) (fun _ _ => rfl)))) pa_nil)))) pss_nil)
    (pss_cons (ps_if (PW.pt (pw_and (pt_cmpR op_in_seq (pv 6) (pv 2) (by rfl)) (pw_and1 (pt_cmpR (op_neP hr.units) (pe_call (ok_l_read T) hr rfl T.g_l_read T.F_l_read.kp T.b_l_read .nil passL (pa_cons (pv 6) pa_nil)) (pe_op op_cat (pe_call (ok_l_guard_of T) (hr.mono (by decide)) rfl T.g_l_guard_of T.F_l_guard_of.kp T.b_l_guard_of .nil passL (pa_cons (pv 6) pa_nil)) (pe_lst (pa_cons (pv 6) pa_nil))) (nomark _))))) (pss_one (ps_ret pe_bl)) pss_nil)
    (pss_one (ps_if (PW.pt (pw_and (pt_cmpR op_notIn_seq (pv 6) (pv 2) (by rfl)) (pw_and1 (pt_cmpR (op_neP hr.units) (pe_call (ok_l_read T) hr rfl T.g_l_read T.F_l_read.kp T.b_l_read .nil passL (pa_cons (pv 6) pa_nil)) (pe_lst (pa_cons pe_str (pa_cons pe_int pa_nil))) (nomark _))))) (pss_one (ps_ret pe_bl)) pss_nil)))))))
    (pss_cons (ps_set (i := 8) sc_law.nd rfl (Or.inl rfl) (pe_ix ix_list (pe_lst (pa_cons pe_non (pa_cons pe_int (pa_cons pe_bl (pa_cons (pe_lst (pa_cons pe_str pa_nil)) (pa_cons (pe_tup (pa_cons pe_str pa_nil)) (pa_cons pe_dnewK pa_nil))))))) (pe_call (ok_l_take T) (hr.mono (by decide)) rfl T.g_l_take T.F_l_take.kp T.b_l_take .nil passL (pa_cons (pv 1) (pa_cons pe_int pa_nil))) (fun _ _ => rfl)))
    (pss_one (ps_ret (pe_cmpR (op_eqP hr.units) (pe_call (ok_l_read T) hr rfl T.g_l_read T.F_l_read.kp T.b_l_read .nil passL (pa_cons (pv 8) pa_nil)) (pe_lst (pa_cons pe_str (pa_cons pe_int pa_nil))) (nomark _)))))))))))), ?_⟩
  rw [show L2.start ["_law_script", "_law_pen_here", "_law_every_here", "_law_text", "_law_five", "_law_turn", "_law_other", "_law_k", "_law_odd"] [V.ref a] = [some (V.ref a), none, none, none, none, none, none, none, none] from rfl]
  have elen : everyL.length = 65 := by decide +kernel
  walk_at "w_go"
  refine ⟨a, ns, rfl, hS, fun p c H1 hp _ _ => ?_⟩
  walk_at "w_go"
  refine ⟨rfl, fun q H2 s2 n2 e2 => ?_⟩
  walk_at "w_go"
  have hp2 := hp.same s2
  clear hp s2 n2
  refine r_take hp2 (by rw [List.length_map, elen]; decide) (by rw [List.length_map, elen]; decide) (fun r1 H3 a0 a1 t1 => ?_)
  walk_at "w_go"
  have hq3 : H3 q = some (.lst (everyL.map V.str)) := by walk_at "w_hp"
  have hp3 := t1.pen
  refine r_pick everyL hq3 rfl a0 (by rwa [List.length_map] at a1) (fun t ht => ?_)
  clear t1 e2 hp2
  obtain ⟨m, ac, b, kk, e, f1, f2, f3, f4, f5, ok⟩ := every_facts ht
  have sh := ok_short ok
  walk_at "w_go"
  refine ⟨t, rfl, by omega, fun five H4 s4 n4 e4 => ?_⟩
  rw [f1] at e4
  replace e4 : H4 five = some (.lst [.str m, .str ac, .str b, .str kk, .str e]) := e4
  have hq4 := s4 _ _ hq3
  have hp4 := hp3.same s4
  clear s4 hq3 hp3 n4
  walk_at "w_go"
  rename_i x dx H5 n5 s5 e5
  refine sp_initG e5 ok.1 ok.2.1 ok.2.2.1 ok.2.2.2.1 ok.2.2.2.2 (fun H6 k6 e6 => ⟨rfl, ?_⟩)
  rw [f3] at e6
  have s6 := same_but n5 s5 k6
  have hq6 := s6 _ _ hq4
  have hp6 := hp4.same s6
  have e46 := s6 _ _ e4
  clear s5 k6 s6 e5 n5 hq4 hp4 e4
  walk_at "w_go"
  refine r_strOwn e6 ⟨x, dx, m, ac, b, kk, e, rfl, e6, sh, fun H7 s7 => ?_⟩
  have hq7 := s7 _ _ hq6
  have hp7 := hp6.same s7
  have e47 := s7 _ _ e46
  clear s7 hq6 hp6 e46 e6
  walk_at "w_go"
  refine iteF' (by simp [f4]) ?_
  walk_at "w_go"
  refine ⟨.str t, rfl, trivial, fun z hz => (by cases hz; omega), fun z => (by rw [show rdT (.str t) = _ from f2] at z; cases z), fun m' b' ac' k' e' z g1 dx1 H8 s8 n8 e8 => ?_⟩
  rw [show rdT (.str t) = _ from f2] at z
  cases z
  rw [f3] at e8
  have hq8 := s8 _ _ hq7
  have hp8 := hp7.same s8
  have e48 := s8 _ _ e47
  clear s8 hq7 hp7 e47
  walk_at "w_go"
  rename_i x2 dx2 H9 n9 s9 e9
  refine sp_initG e9 ok.1 ok.2.1 ok.2.2.1 ok.2.2.2.1 ok.2.2.2.2 (fun HA kA eA => ⟨rfl, ?_⟩)
  rw [f3] at eA
  have sA := same_but n9 s9 kA
  have hqA := sA _ _ hq8
  have hpA := hp8.same sA
  have e8A := sA _ _ e8
  clear s9 kA sA e9 n9 hq8 hp8 e8 e48
  walk_at "w_go"
  refine r_rEqOwn e8A (T.ow_Guard.ty eA) T.nfo_Guard ⟨g1, dx1, m, ac, b, kk, e, _, rfl, e8A, .inl ⟨x2, dx2, m, ac, b, kk, e, rfl, eA, ⟨⟨_, rfl⟩, ?_⟩⟩⟩
  walk_at "w_go"
  refine iteF' (by simp) ?_
  walk_at "w_go"
  refine r_rngK (by decide) (by decide) (for_range (lo := 0) (n := 4) (fun i σ H' => (∃ (u5 u6 u7 : Option V), σ = [some (.ref a), some (.ref p), some (.ref q), some (.str t), some (.ref five), u5, u6, u7, none]) ∧ PenAt H' p c ∧ H' q = some (.lst (everyL.map V.str))) ⟨⟨_, _, _, rfl⟩, hpA, hqA⟩ ?_ ?_)
  · rintro i σ Hb _ ⟨⟨u5, u6, u7, rfl⟩, hpb, hqb⟩
    clear hqA hpA e8A eA f1 f2 f3 f4 ok sh
    walk_at "w_go"
    refine r_take hpb (by rw [List.length_map, elen]; decide) (by rw [List.length_map, elen]; decide) (fun r2 Hc b0 b1 tc => ?_)
    walk_at "w_go"
    have hqc : Hc q = some (.lst (everyL.map V.str)) := by walk_at "w_hp"
    have hpc := tc.pen
    refine r_pick everyL hqc rfl b0 (by rwa [List.length_map] at b1) (fun o ho => ?_)
    have lo : o.length ≤ bd 0 := by
      obtain ⟨_, _, _, _, _, _, _, _, _, l, _⟩ := every_facts ho
      exact l
    clear tc hqb hpb
    walk_at "w_go"
    refine r_take hpc (by decide) (by decide) (fun r3 Hd d0 d1 td => ?_)
    have hqd : Hd q = some (.lst (everyL.map V.str)) := by walk_at "w_hp"
    have hpd := td.pen
    clear td hqc hpc
    walk_at "w_go"
    refine r_rngK (by omega) (by omega) (for_range (lo := 0) (n := r3.toNat) (fun j σ H' => (∃ (o : Str) (u7 : Option V), σ = [some (.ref a), some (.ref p), some (.ref q), some (.str t), some (.ref five), some (.int (0 + (i : Int))), some (.str o), u7, none] ∧ o.length ≤ bd j) ∧ PenAt H' p c ∧ H' q = some (.lst (everyL.map V.str))) ⟨⟨o, _, rfl, lo⟩, hpd, hqd⟩ ?_ ?_)
    · rintro j σ He hj ⟨⟨o, u7, rfl, lo⟩, hpe, hqe⟩
      have lb := bd3 j (by omega)
      walk_at "w_go"
      refine ⟨p, c, o, rfl, hpe, by omega, fun o' Hf tf lf => ?_⟩
      walk_at "w_go"
      have hqf : Hf q = some (.lst (everyL.map V.str)) := by walk_at "w_hp"
      exact ⟨⟨o', _, rfl, by show o'.length ≤ 2 * bd j + 20; omega⟩, tf.pen, hqf⟩
    · rintro σ He ⟨⟨o, u7, rfl, lo⟩, hpe, hqe⟩
      replace lo : o.length ≤ 460 := Nat.le_trans lo (bd3 _ (by omega))
      clear hpd hqd
      walk_at "w_go"
      refine ⟨p, c, 6, rfl, hpe, by decide, by decide, fun r Hf tf => ?_⟩
      have hqf : Hf q = some (.lst (everyL.map V.str)) := by walk_at "w_hp"
      have hpf := tf.pen
      clear tf hpe hqe
      walk_at "w_go"
      refine r_ifJ (fun σ H' => (∃ (o : Str) (u7 : Option V), σ = [some (.ref a), some (.ref p), some (.ref q), some (.str t), some (.ref five), some (.int (0 + (i : Int))), some (.str o), u7, none] ∧ o.length ≤ 1000000) ∧ PenAt H' p c ∧ H' q = some (.lst (everyL.map V.str))) ?_ ?_
      · rintro σ Hg ⟨⟨o, u7, rfl, lo⟩, hpg, hqg⟩
        clear hpf hqf
        by_cases hm : o ∈ everyL
        · obtain ⟨m, ac, b, kk, e, f1, f2, f3, f4, f5, ok⟩ := every_facts hm
          walk_at "w_go"
          refine r_inSP (.inl (.of hqg)) ?_
          walk_at "w_go"
          refine iteT' (decide_eq_true hm) ?_
          walk_at "w_go"
          refine ⟨.str o, rfl, trivial, fun z hz => (by cases hz; exact lo), fun z => (by rw [show rdT (.str o) = _ from f2] at z; cases z), fun m' b' ac' k' e' z r1 Hh sh nh eh => ?_⟩
          rw [show rdT (.str o) = _ from f2] at z
          cases z
          walk_at "w_go"
          refine ⟨o, rfl, lo, fun r2 Hi si ni ei => ?_⟩
          rw [f1] at ei
          rw [f3] at eh
          walk_at "w_go"
          rename_i r4 Hj nj sj ej r5 Hk nk sk ek
          refine r_neSE [m, ac, b, kk, e, o] (by walk_at "w_hp") ek ?_ rfl ?_
          · show List.map V.str ([m, ac, b, kk, e] ++ [strT m b ac kk e]) = _
            rw [f4]
            rfl
          walk_at "w_go"
          refine r_inSN (.inl (.of (by walk_at "w_hp"))) ?_
          walk_at "w_go"
          refine iteF' (by simp [hm]) ?_
          walk_at "w_go"
          exact ⟨⟨_, _, _, rfl⟩, (((hpg.same sh).same si).same sj).same sk, by walk_at "w_hp"⟩
        · have hn : rdT (.str o) = none := by
            show splitT o = none
            cases hs : splitT o with
            | none => rfl
            | some f => exact absurd (rd_every.mpr ⟨f, hs⟩) hm
          walk_at "w_go"
          refine r_inSP (.inl (.of hqg)) ?_
          walk_at "w_go"
          refine iteF' (decide_eq_false hm) ?_
          walk_at "w_go"
          refine r_inSN (.inl (.of hqg)) ?_
          walk_at "w_go"
          refine iteT' (by simp [hm]) ?_
          walk_at "w_go"
          refine ⟨.str o, rfl, trivial, fun z hz => (by cases hz; exact lo), fun _ r1 Hh sh nh eh => ?_, fun m' b' ac' k' e' z => by rw [hn] at z; cases z⟩
          walk_at "w_go"
          rename_i r5 Hk nk sk ek
          refine r_neBad (by walk_at "w_hp") ek ?_
          walk_at "w_go"
          exact ⟨⟨_, _, _, rfl⟩, (hpg.same sh).same sk, by walk_at "w_hp"⟩
      · intro N hN
        cases r with
        | false =>
          refine iteF ?_
          walk_at "w_go"
          exact hN _ _ ⟨⟨o, _, rfl, by omega⟩, hpf, hqf⟩
        | true =>
          refine iteT ?_
          walk_at "w_go"
          rename_i qs Hg ng sg eg
          have hcnt := PyProof.Rows.split_le o ", "
          have pl : ∀ z, z ∈ Txt.split o ", " → z.length ≤ 460 := fun z hz => Nat.le_trans (piece_len hz) lo
          rw [List.length_map]
          refine r_rngK (by omega) (by omega) ?_
          rw [Int.toNat_natCast]
          refine r_lcRG (fun _ => true) (fun _ v _ => ∃ z, v = V.str z ∧ z ∈ Txt.split o ", ") (fun _ _ _ _ h _ => h) (by rw [PySem.sizeLine_eq]; omega) (fun D j hD hj => ?_) (fun L ys Hh nh sh eh hr => ?_)
          · refine ⟨fun H' R _ q => q, fun H' R acc _ s e kk => ?_⟩
            walk_at "w_go"
            rename_i qw Hw nw sw ew
            obtain ⟨v, hv, ev⟩ := at_pm (xs := (Txt.split o ", ").map V.str) (k := j) (by rwa [List.length_map])
            obtain ⟨z, hz, rfl⟩ := List.mem_map.mp hv
            refine r_ixLK ew ev ?_
            exact kk _ _ sw ⟨z, rfl, hz⟩
          · rw [filt_true] at hr
            have hly : ys.length = (Txt.split o ", ").length := by rw [← hr.len, ints_len]
            obtain ⟨ss, rfl⟩ := all_strs (fl := ys) fun v hv => by
              obtain ⟨jj, hjj⟩ := List.mem_iff_getElem?.mp hv
              obtain ⟨_, _, z, rfl, _⟩ := hr.right hjj
              exact ⟨z, rfl⟩
            have hss : ∀ z, z ∈ ss → z.length ≤ 460 := fun z hz => by
              obtain ⟨jj, hjj⟩ := List.mem_iff_getElem?.mp hz
              obtain ⟨_, _, z', e', hz'⟩ := hr.right (i := jj) (b := .str z) (by rw [List.getElem?_map, hjj]; rfl)
              cases e'
              exact pl _ hz'
            have hj := join_len hss
            rw [List.length_map] at hly
            have hmul : ss.length * (460 + 2) ≤ 462 * 462 := Nat.mul_le_mul (by omega) (Nat.le_refl _)
            walk_at "w_go"
            refine r_join ss eh rfl (by omega) ?_
            walk_at "w_go"
            have hqh : Hh q = some (.lst (everyL.map V.str)) := by walk_at "w_hp"
            refine hN _ _ ⟨⟨_, _, rfl, ?_⟩, (hpf.same sg).same sh, hqh⟩
            exact Nat.le_trans (txt_join_len ss) (by omega)
  · rintro σ Hb ⟨⟨u5, u6, u7, rfl⟩, hpb, hqb⟩
    clear hqA hpA e8A eA f1 f2 f3 f4 ok sh
    walk_at "w_go"
    rename_i q1 G1 n1 s1 e1 q2 G2 n2 s2 e2 q3 G3 n3 s3 e3 q4 G4 n4 s4 e4
    have n3p : q3 ≠ p := (PenAt.ne_new (H := G2) (by walk_at "w_pen") n3).1.symm
    refine r_take (by walk_at "w_pen") (by decide) (by decide) (fun r5 G5 g0 g1 t5 => ?_)
    walk_at "w_go"
    have x1 : G5 q1 = some (.lst [.str "none"]) := by walk_at "w_hp"
    have x2 : G5 q2 = some (.tup [.str "way same ring"]) := by walk_at "w_hp"
    have x3 : G5 q3 = some (.dK []) := by walk_at "w_hp"
    refine r_anyIx (by walk_at "w_hp") g0 g1 (by rfl) (fun v hv => ?_)
    have hv2 : AnyV G5 v ∧ ∀ z, v ≠ .str z := by
      simp only [List.mem_cons, List.not_mem_nil, or_false] at hv
      rcases hv with rfl | rfl | rfl | rfl | rfl | rfl
      · exact ⟨trivial, fun z h => by cases h⟩
      · exact ⟨trivial, fun z h => by cases h⟩
      · exact ⟨trivial, fun z h => by cases h⟩
      · exact ⟨.inl ⟨_, x1⟩, fun z h => by cases h⟩
      · exact ⟨.inr (.inl ⟨_, x2⟩), fun z h => by cases h⟩
      · exact ⟨.inr (.inr ⟨_, x3⟩), fun z h => by cases h⟩
    have hn : rdT v = none := by
      cases v with
      | str z => exact absurd rfl (hv2.2 z)
      | _ => rfl
    clear x1 x2 x3 s1 s2 s3 s4 e1 e2 e3 e4 t5 hpb hqb
    walk_at "w_go"
    refine ⟨v, rfl, hv2.1, fun z hz => absurd hz (hv2.2 z), fun _ r1 Hh sh nh eh => ?_, fun m' b' ac' k' e' z => (by rw [hn] at z; cases z)⟩
    walk_at "w_go"
    rename_i r5 Hk nk sk ek
    refine r_eqBad (by walk_at "w_hp") ek ?_
    exact k Hk
end
end Wm
namespace Wm
open PySem L2

theorem fm_BadGuard : PySem.Er.IForm ["part"] (defArgs s_BadGuard_init) (defBody s_BadGuard_init) (defScope s_BadGuard_init) :=
  PySem.Er.IForm.one _ _ _ _ _ _ _ _ _ _ _ _ _ (fun _ _ _ _ _ => ⟨_, rfl⟩) (fun _ _ _ _ _ => rfl) ⟨fun _ _ _ _ _ _ _ _ _ vs hl => match vs, hl with | [_], _ => rfl, ⟨_, rfl, rfl⟩, rfl, rfl, rfl, (by
      intro f hf
      simp only [List.mem_cons, List.not_mem_nil, or_false] at hf
      rcases hf with rfl <;> exact ⟨rfl, by decide⟩), fun x vs hl => match vs, hl with | [_], _ => rfl, (fun x vs i f v hl h1 h2 => match vs, hl, i, h1, h2 with | [_], _, 0, h1, h2 => by cases h1; cases h2; rfl), by decide⟩
theorem fm_BadText : PySem.Er.IForm ["line"] (defArgs s_BadText_init) (defBody s_BadText_init) (defScope s_BadText_init) :=
  PySem.Er.IForm.one _ _ _ _ _ _ _ _ _ _ _ _ _ (fun _ _ _ _ _ => ⟨_, rfl⟩) (fun _ _ _ _ _ => rfl) ⟨fun _ _ _ _ _ _ _ _ _ vs hl => match vs, hl with | [_], _ => rfl, ⟨_, rfl, rfl⟩, rfl, rfl, rfl, (by
      intro f hf
      simp only [List.mem_cons, List.not_mem_nil, or_false] at hf
      rcases hf with rfl <;> exact ⟨rfl, by decide⟩), fun x vs hl => match vs, hl with | [_], _ => rfl, (fun x vs i f v hl h1 h2 => match vs, hl, i, h1, h2 with | [_], _, 0, h1, h2 => by cases h1; cases h2; rfl), by decide⟩
theorem all_mk {l : PySem.W.OpenLaw} {w : World} {K : PySem.W.Frag} {h : Heap} {mg : Str → Option Value} {fa : Addr} (X : K.In h) (G : h.Ns mainGlobals mg) (hfa : mg "law" = some (.ref fa))
    {A_MARKS : Addr} {td_MARKS : Option Addr} {ti_MARKS : Array Value} {tn_MARKS : Nat} {ts_MARKS : Array (Option Value)} {A_ACTS : Addr} {td_ACTS : Option Addr} {ti_ACTS : Array Value} {tn_ACTS : Nat} {ts_ACTS : Array (Option Value)} {A_BY : Addr} {td_BY : Option Addr} {ti_BY : Array Value} {tn_BY : Nat} {ts_BY : Array (Option Value)} {A_KEEPS : Addr} {td_KEEPS : Option Addr} {ti_KEEPS : Array Value} {tn_KEEPS : Nat} {ts_KEEPS : Array (Option Value)} {C_BadGuard f_BadGuard_init cda_BadGuard_init cc_BadGuard_init : Addr} {oc_BadGuard_init ct_BadGuard_init ccl_BadGuard_init ccc_BadGuard_init dc_BadGuard_init pm_BadGuard_init : Value} {od_BadGuard_init an_BadGuard_init cdd_BadGuard_init cld_BadGuard_init : Option Addr} {osl_BadGuard_init ccs_BadGuard_init csl_BadGuard_init : Array (Option Value)} {vs_BadGuard_init : Array Value} {file_BadGuard_init : Str} {tf_BadGuard_init : Tok} {C_BadText f_BadText_init cda_BadText_init cc_BadText_init : Addr} {oc_BadText_init ct_BadText_init ccl_BadText_init ccc_BadText_init dc_BadText_init pm_BadText_init : Value} {od_BadText_init an_BadText_init cdd_BadText_init cld_BadText_init : Option Addr} {osl_BadText_init ccs_BadText_init csl_BadText_init : Array (Option Value)} {vs_BadText_init : Array Value} {file_BadText_init : Str} {tf_BadText_init : Tok} {C_Guard : Addr} {od_Guard_init an_Guard_init : Option Addr} {sl_Guard_init : Array (Option Value)} {oc_Guard_init  dc_Guard_init pm_Guard_init cd_Guard_init ct_Guard_init : Value} {f_Guard_init : Addr} {dT_Guard_init : Addr} {dc_TGuard_init : Value} {dd_TGuard_init : Option Addr} {di_TGuard_init : Array Value} {dn_TGuard_init : Nat} {ds_TGuard_init : Array (Option Value)} {kD_Guard_init : Addr} {ku0_Guard_init ku1_Guard_init ku2_Guard_init ku3_Guard_init : Value} {od_is_choice an_is_choice : Option Addr} {sl_is_choice : Array (Option Value)} {oc_is_choice kV_is_choice dc_is_choice pm_is_choice cd_is_choice ct_is_choice : Value} {f_is_choice : Addr} {od_split_text an_split_text : Option Addr} {sl_split_text : Array (Option Value)} {oc_split_text kV_split_text dc_split_text pm_split_text cd_split_text ct_split_text : Value} {f_split_text : Addr} {od_Guard_eq an_Guard_eq : Option Addr} {sl_Guard_eq : Array (Option Value)} {oc_Guard_eq kV_Guard_eq dc_Guard_eq pm_Guard_eq cd_Guard_eq ct_Guard_eq : Value} {f_Guard_eq : Addr} {od_Guard_str an_Guard_str : Option Addr} {sl_Guard_str : Array (Option Value)} {oc_Guard_str kV_Guard_str dc_Guard_str pm_Guard_str cd_Guard_str ct_Guard_str : Value} {f_Guard_str : Addr} {od_l_pen an_l_pen : Option Addr} {sl_l_pen : Array (Option Value)} {oc_l_pen kV_l_pen dc_l_pen pm_l_pen cd_l_pen ct_l_pen : Value} {f_l_pen : Addr} {od_l_take an_l_take : Option Addr} {sl_l_take : Array (Option Value)} {oc_l_take kV_l_take dc_l_take pm_l_take cd_l_take ct_l_take : Value} {f_l_take : Addr} {od_l_bit an_l_bit : Option Addr} {sl_l_bit : Array (Option Value)} {oc_l_bit kV_l_bit dc_l_bit pm_l_bit cd_l_bit ct_l_bit : Value} {f_l_bit : Addr} {od_l_every an_l_every : Option Addr} {sl_l_every : Array (Option Value)} {oc_l_every kV_l_every dc_l_every pm_l_every cd_l_every ct_l_every : Value} {f_l_every : Addr} {od_l_guard_of an_l_guard_of : Option Addr} {sl_l_guard_of : Array (Option Value)} {oc_l_guard_of kV_l_guard_of dc_l_guard_of pm_l_guard_of cd_l_guard_of ct_l_guard_of : Value} {f_l_guard_of : Addr} {od_l_changed an_l_changed : Option Addr} {sl_l_changed : Array (Option Value)} {oc_l_changed kV_l_changed dc_l_changed pm_l_changed cd_l_changed ct_l_changed : Value} {f_l_changed : Addr} {od_l_read an_l_read : Option Addr} {sl_l_read : Array (Option Value)} {oc_l_read kV_l_read dc_l_read pm_l_read cd_l_read ct_l_read : Value} {f_l_read : Addr} {od_law an_law : Option Addr} {sl_law : Array (Option Value)} {oc_law kV_law dc_law pm_law cd_law ct_law : Value} {f_law : Addr} {od_Guard_read an_Guard_read : Option Addr} {sl_Guard_read : Array (Option Value)} {oc_Guard_read kV_Guard_read dc_Guard_read pm_Guard_read cd_Guard_read ct_Guard_read : Value} {f_Guard_read : Addr} {p_Guard_read : Addr} {rs_Guard_read : List Value}
    (z_len : PySem.W.nsIn K mainGlobals "len" = some none)
    (z_int : PySem.W.nsIn K mainGlobals "int" = some none)
    (z_list : PySem.W.nsIn K mainGlobals "list" = some none)
    (z_range : PySem.W.nsIn K mainGlobals "range" = some none)
    (z_isinstance : PySem.W.nsIn K mainGlobals "isinstance" = some none)
    (z_str : PySem.W.nsIn K mainGlobals "str" = some none)
    (aG_MARKS : PySem.W.nsIn K mainGlobals "MARKS" = some (some (.ref A_MARKS)))
    (lt_MARKS : K.lookup A_MARKS = some ⟨.type "tuple", td_MARKS, .seq ti_MARKS tn_MARKS, ts_MARKS⟩)
    (ls_MARKS : decide (ti_MARKS.size ≤ 16777216) = true)
    (lv_MARKS : Vals (MARKSl.map V.str) ti_MARKS.toList)
    (aG_ACTS : PySem.W.nsIn K mainGlobals "ACTS" = some (some (.ref A_ACTS)))
    (lt_ACTS : K.lookup A_ACTS = some ⟨.type "tuple", td_ACTS, .seq ti_ACTS tn_ACTS, ts_ACTS⟩)
    (ls_ACTS : decide (ti_ACTS.size ≤ 16777216) = true)
    (lv_ACTS : Vals (ACTSl.map V.str) ti_ACTS.toList)
    (aG_BY : PySem.W.nsIn K mainGlobals "BY" = some (some (.ref A_BY)))
    (lt_BY : K.lookup A_BY = some ⟨.type "tuple", td_BY, .seq ti_BY tn_BY, ts_BY⟩)
    (ls_BY : decide (ti_BY.size ≤ 16777216) = true)
    (lv_BY : Vals (BYl.map V.str) ti_BY.toList)
    (aG_KEEPS : PySem.W.nsIn K mainGlobals "KEEPS" = some (some (.ref A_KEEPS)))
    (lt_KEEPS : K.lookup A_KEEPS = some ⟨.type "tuple", td_KEEPS, .seq ti_KEEPS tn_KEEPS, ts_KEEPS⟩)
    (ls_KEEPS : decide (ti_KEEPS.size ≤ 16777216) = true)
    (lv_KEEPS : Vals (KEEPSl.map V.str) ti_KEEPS.toList)
    (aC_BadGuard : PySem.W.nsIn K mainGlobals "BadGuard" = some (some (.ref C_BadGuard)))
    (init_BadGuard : PySem.W.findIn K (.ref C_BadGuard) "__init__" = some (some (.ref f_BadGuard_init)))
    (ty_BadGuard : PySem.W.typeIn K (.ref f_BadGuard_init) = some (.type "function"))
    (lk_BadGuard : K.lookup f_BadGuard_init = some ⟨oc_BadGuard_init, od_BadGuard_init, .func (PySem.W.ksFn "__init__" "BadGuard.__init__" (defArgs s_BadGuard_init) (defBody s_BadGuard_init) (defScope s_BadGuard_init) .none .none dc_BadGuard_init pm_BadGuard_init an_BadGuard_init (.ref cda_BadGuard_init) ct_BadGuard_init cc_BadGuard_init), osl_BadGuard_init⟩)
    (hc_BadGuard : PySem.W.codeIn K (.ref cda_BadGuard_init) "BadGuard.__init__" = true)
    (code_BadGuard : K.lookup cda_BadGuard_init = some ⟨ccl_BadGuard_init, cdd_BadGuard_init, .fields vs_BadGuard_init, ccs_BadGuard_init⟩)
    (hv_BadGuard : vs_BadGuard_init[2]? = some (.str file_BadGuard_init tf_BadGuard_init))
    (hf_BadGuard : ((l.prog.main.file : Str) == file_BadGuard_init) = true)
    (cell_BadGuard : K.lookup cc_BadGuard_init = some ⟨ccc_BadGuard_init, cld_BadGuard_init, .cell (some (.ref C_BadGuard)), csl_BadGuard_init⟩)
    (ic_BadGuard : PySem.W.isClsIn K C_BadGuard = true)
    (sub_BadGuard : PySem.W.mroIn K C_BadGuard (.ref C_BadGuard) = some true)
    (z_super : PySem.W.nsIn K mainGlobals "super" = some none)
    (z_tp : PySem.W.nsIn K cStatics "thirdparty.any" = some none)
    (z_top : (l.prog.main.scope.names.lookup ("super" : Str)).isSome = false)
    (sup_BadGuard : PySem.W.ks_superIn K C_BadGuard C_BadGuard "__init__" = some (some (.builtin "ValueError.__init__")))
    (base_BadGuard : PySem.W.subIn K (.ref C_BadGuard) (.type "ValueError") = some true)
    (exc_BadGuard : PySem.W.excInitIn K C_BadGuard [.type "ValueError", .type "Exception", .type "BaseException", .type "object"] "ValueError.__new__" = true)
    (sa_BadGuard : PySem.W.findIn K (.ref C_BadGuard) "__setattr__" = some (some (.builtin "object.__setattr__")))
    (ov_BadGuard : PySem.W.excOver K C_BadGuard [.type "ValueError", .type "Exception", .type "BaseException", .type "object"] = true)
    (hd_BadGuard : PySem.W.hasDictIn K C_BadGuard = true)
    (no_BadGuard_part : PySem.W.findIn K (.ref C_BadGuard) "part" = some none)
    (exC_BadGuard : PySem.W.subIn K (.ref C_BadGuard) (.type "BaseException") = some true)
    (tyC_BadGuard : PySem.W.typeIn K (.ref C_BadGuard) = some (.type "type"))
    (kC_BadGuard : PySem.W.keepIn K (.ref C_BadGuard) = true)
    (su_BadGuard : PySem.W.subIn K (.ref C_BadGuard) (.ref C_BadGuard) = some true)
    (ga_BadGuard : PySem.W.findIn K (.ref C_BadGuard) "__getattribute__" = some (some (.builtin "BaseException.__getattribute__")))
    (gg_BadGuard : PySem.W.findIn K (.ref C_BadGuard) "__getattr__" = some none)
    (aC_BadText : PySem.W.nsIn K mainGlobals "BadText" = some (some (.ref C_BadText)))
    (init_BadText : PySem.W.findIn K (.ref C_BadText) "__init__" = some (some (.ref f_BadText_init)))
    (ty_BadText : PySem.W.typeIn K (.ref f_BadText_init) = some (.type "function"))
    (lk_BadText : K.lookup f_BadText_init = some ⟨oc_BadText_init, od_BadText_init, .func (PySem.W.ksFn "__init__" "BadText.__init__" (defArgs s_BadText_init) (defBody s_BadText_init) (defScope s_BadText_init) .none .none dc_BadText_init pm_BadText_init an_BadText_init (.ref cda_BadText_init) ct_BadText_init cc_BadText_init), osl_BadText_init⟩)
    (hc_BadText : PySem.W.codeIn K (.ref cda_BadText_init) "BadText.__init__" = true)
    (code_BadText : K.lookup cda_BadText_init = some ⟨ccl_BadText_init, cdd_BadText_init, .fields vs_BadText_init, ccs_BadText_init⟩)
    (hv_BadText : vs_BadText_init[2]? = some (.str file_BadText_init tf_BadText_init))
    (hf_BadText : ((l.prog.main.file : Str) == file_BadText_init) = true)
    (cell_BadText : K.lookup cc_BadText_init = some ⟨ccc_BadText_init, cld_BadText_init, .cell (some (.ref C_BadText)), csl_BadText_init⟩)
    (ic_BadText : PySem.W.isClsIn K C_BadText = true)
    (sub_BadText : PySem.W.mroIn K C_BadText (.ref C_BadText) = some true)
    (sup_BadText : PySem.W.ks_superIn K C_BadText C_BadText "__init__" = some (some (.builtin "ValueError.__init__")))
    (base_BadText : PySem.W.subIn K (.ref C_BadText) (.type "ValueError") = some true)
    (exc_BadText : PySem.W.excInitIn K C_BadText [.type "ValueError", .type "Exception", .type "BaseException", .type "object"] "ValueError.__new__" = true)
    (sa_BadText : PySem.W.findIn K (.ref C_BadText) "__setattr__" = some (some (.builtin "object.__setattr__")))
    (ov_BadText : PySem.W.excOver K C_BadText [.type "ValueError", .type "Exception", .type "BaseException", .type "object"] = true)
    (hd_BadText : PySem.W.hasDictIn K C_BadText = true)
    (no_BadText_line : PySem.W.findIn K (.ref C_BadText) "line" = some none)
    (exC_BadText : PySem.W.subIn K (.ref C_BadText) (.type "BaseException") = some true)
    (tyC_BadText : PySem.W.typeIn K (.ref C_BadText) = some (.type "type"))
    (kC_BadText : PySem.W.keepIn K (.ref C_BadText) = true)
    (su_BadText : PySem.W.subIn K (.ref C_BadText) (.ref C_BadText) = some true)
    (ga_BadText : PySem.W.findIn K (.ref C_BadText) "__getattribute__" = some (some (.builtin "BaseException.__getattribute__")))
    (gg_BadText : PySem.W.findIn K (.ref C_BadText) "__getattr__" = some none)
    (aC_Guard : PySem.W.nsIn K mainGlobals "Guard" = some (some (.ref C_Guard)))
    (pg_Guard : PySem.W.plainGet K C_Guard Str.empty = true)
    (hd_Guard : PySem.W.hasDictIn K C_Guard = true)
    (po_Guard : PySem.W.plainOver K C_Guard = true)
    (sa_Guard : PySem.W.findIn K (.ref C_Guard) "__setattr__" = some (some (.builtin "object.__setattr__")))
    (ha_Guard : PySem.W.findIn K (.ref C_Guard) "__class__" = some (some (.builtin "object.__class__")))
    (hn_Guard : PySem.W.specialIn K (.builtin "object.__class__") "__get__" = some (some (.builtin "getset_descriptor.__get__")))
    (ht_Guard : PySem.W.takesIn K (.builtin "object.__class__") = some true)
    (hm_Guard : PySem.W.mroIn K C_Guard (.type "object") = some true)
    (k1_Guard : PySem.W.kitOne K (.ref C_Guard) (.ref C_Guard) = some true)
    (b1_Guard : PySem.W.kitOne K (.type "NoneType") (.ref C_Guard) = some false)
    (b2_Guard : PySem.W.kitOne K (.type "bool") (.ref C_Guard) = some false)
    (b3_Guard : PySem.W.kitOne K (.type "int") (.ref C_Guard) = some false)
    (b4_Guard : PySem.W.kitOne K (.type "str") (.ref C_Guard) = some false)
    (b5_Guard : PySem.W.kitOne K (.type "list") (.ref C_Guard) = some false)
    (b6_Guard : PySem.W.kitOne K (.type "tuple") (.ref C_Guard) = some false)
    (b7_Guard : PySem.W.kitOne K (.type "dict") (.ref C_Guard) = some false)
    (no_Guard_mark : PySem.W.findIn K (.ref C_Guard) "mark" = some none)
    (no_Guard_act : PySem.W.findIn K (.ref C_Guard) "act" = some none)
    (no_Guard_by : PySem.W.findIn K (.ref C_Guard) "by" = some none)
    (no_Guard_keep : PySem.W.findIn K (.ref C_Guard) "keep" = some none)
    (no_Guard_keep_by : PySem.W.findIn K (.ref C_Guard) "keep_by" = some none)
    (nf1_Guard : PySem.W.notFirst K C_Guard (.type "NoneType") = true)
    (nf2_Guard : PySem.W.notFirst K C_Guard (.type "bool") = true)
    (nf3_Guard : PySem.W.notFirst K C_Guard (.type "int") = true)
    (nf4_Guard : PySem.W.notFirst K C_Guard (.type "str") = true)
    (nf5_Guard : PySem.W.notFirst K C_Guard (.type "list") = true)
    (nf6_Guard : PySem.W.notFirst K C_Guard (.type "tuple") = true)
    (nf7_Guard : PySem.W.notFirst K C_Guard (.type "dict") = true)
    (nfo_Guard : PySem.W.notFirst K C_Guard (.ref C_Guard) = true)
    (mk_Guard : PySem.W.makesIn K C_Guard = true)
    (kc_Guard : PySem.W.keepIn K (.ref C_Guard) = true)
    (a_Guard_init : PySem.W.findIn K (.ref C_Guard) "__init__" = some (some (.ref f_Guard_init)))
    (i_Guard_init : PySem.W.isFn K (.ref f_Guard_init) = true)
    (l_Guard_init : K.lookup f_Guard_init = some ⟨oc_Guard_init, od_Guard_init, .func (PySem.W.fnOf "__init__" "Guard.__init__" (defArgs s_Guard_init) (defBody s_Guard_init) (defScope s_Guard_init) (.ref dT_Guard_init) (.ref kD_Guard_init) dc_Guard_init pm_Guard_init an_Guard_init cd_Guard_init ct_Guard_init), sl_Guard_init⟩)
    (c_Guard_init : PySem.W.codeIn K cd_Guard_init "Guard.__init__" = true)
    (k_Guard_init : PySem.W.keepIn K (.ref f_Guard_init) = true)
    (dl_Guard_init : K.lookup dT_Guard_init = some ⟨dc_TGuard_init, dd_TGuard_init, .seq di_TGuard_init dn_TGuard_init, ds_TGuard_init⟩)
    (dv_Guard_init : Vals [.str "none"] di_TGuard_init.toList)
    (kw0_Guard_init : PySem.W.nsIn K kD_Guard_init "act" = some (some ku0_Guard_init))
    (kr0_Guard_init : RelV (.str "ring") ku0_Guard_init)
    (kw1_Guard_init : PySem.W.nsIn K kD_Guard_init "by" = some (some ku1_Guard_init))
    (kr1_Guard_init : RelV (.str "same") ku1_Guard_init)
    (kw2_Guard_init : PySem.W.nsIn K kD_Guard_init "keep" = some (some ku2_Guard_init))
    (kr2_Guard_init : RelV (.str "none") ku2_Guard_init)
    (kw3_Guard_init : PySem.W.nsIn K kD_Guard_init "keep_by" = some (some ku3_Guard_init))
    (kr3_Guard_init : RelV (.str "same") ku3_Guard_init)
    (a_is_choice : PySem.W.nsIn K mainGlobals "is_choice" = some (some (.ref f_is_choice)))
    (l_is_choice : K.lookup f_is_choice = some ⟨oc_is_choice, od_is_choice, .func (PySem.W.fnOf "is_choice" "is_choice" (defArgs s_is_choice) (defBody s_is_choice) (defScope s_is_choice) .none kV_is_choice dc_is_choice pm_is_choice an_is_choice cd_is_choice ct_is_choice), sl_is_choice⟩)
    (c_is_choice : PySem.W.codeIn K cd_is_choice "is_choice" = true)
    (k_is_choice : PySem.W.keepIn K (.ref f_is_choice) = true)
    (a_split_text : PySem.W.nsIn K mainGlobals "split_text" = some (some (.ref f_split_text)))
    (l_split_text : K.lookup f_split_text = some ⟨oc_split_text, od_split_text, .func (PySem.W.fnOf "split_text" "split_text" (defArgs s_split_text) (defBody s_split_text) (defScope s_split_text) .none kV_split_text dc_split_text pm_split_text an_split_text cd_split_text ct_split_text), sl_split_text⟩)
    (c_split_text : PySem.W.codeIn K cd_split_text "split_text" = true)
    (k_split_text : PySem.W.keepIn K (.ref f_split_text) = true)
    (a_Guard_eq : PySem.W.findIn K (.ref C_Guard) "__eq__" = some (some (.ref f_Guard_eq)))
    (i_Guard_eq : PySem.W.isFn K (.ref f_Guard_eq) = true)
    (l_Guard_eq : K.lookup f_Guard_eq = some ⟨oc_Guard_eq, od_Guard_eq, .func (PySem.W.fnOf "__eq__" "Guard.__eq__" (defArgs s_Guard_eq) (defBody s_Guard_eq) (defScope s_Guard_eq) .none kV_Guard_eq dc_Guard_eq pm_Guard_eq an_Guard_eq cd_Guard_eq ct_Guard_eq), sl_Guard_eq⟩)
    (c_Guard_eq : PySem.W.codeIn K cd_Guard_eq "Guard.__eq__" = true)
    (k_Guard_eq : PySem.W.keepIn K (.ref f_Guard_eq) = true)
    (a_Guard_str : PySem.W.findIn K (.ref C_Guard) "__str__" = some (some (.ref f_Guard_str)))
    (i_Guard_str : PySem.W.isFn K (.ref f_Guard_str) = true)
    (l_Guard_str : K.lookup f_Guard_str = some ⟨oc_Guard_str, od_Guard_str, .func (PySem.W.fnOf "__str__" "Guard.__str__" (defArgs s_Guard_str) (defBody s_Guard_str) (defScope s_Guard_str) .none kV_Guard_str dc_Guard_str pm_Guard_str an_Guard_str cd_Guard_str ct_Guard_str), sl_Guard_str⟩)
    (c_Guard_str : PySem.W.codeIn K cd_Guard_str "Guard.__str__" = true)
    (k_Guard_str : PySem.W.keepIn K (.ref f_Guard_str) = true)
    (a_l_pen : PySem.W.nsIn K mainGlobals "_law_pen" = some (some (.ref f_l_pen)))
    (l_l_pen : K.lookup f_l_pen = some ⟨oc_l_pen, od_l_pen, .func (PySem.W.fnOf "_law_pen" "_law_pen" (defArgs s_l_pen) (defBody s_l_pen) (defScope s_l_pen) .none kV_l_pen dc_l_pen pm_l_pen an_l_pen cd_l_pen ct_l_pen), sl_l_pen⟩)
    (c_l_pen : PySem.W.codeIn K cd_l_pen "_law_pen" = true)
    (k_l_pen : PySem.W.keepIn K (.ref f_l_pen) = true)
    (a_l_take : PySem.W.nsIn K mainGlobals "_law_take" = some (some (.ref f_l_take)))
    (l_l_take : K.lookup f_l_take = some ⟨oc_l_take, od_l_take, .func (PySem.W.fnOf "_law_take" "_law_take" (defArgs s_l_take) (defBody s_l_take) (defScope s_l_take) .none kV_l_take dc_l_take pm_l_take an_l_take cd_l_take ct_l_take), sl_l_take⟩)
    (c_l_take : PySem.W.codeIn K cd_l_take "_law_take" = true)
    (k_l_take : PySem.W.keepIn K (.ref f_l_take) = true)
    (a_l_bit : PySem.W.nsIn K mainGlobals "_law_bit" = some (some (.ref f_l_bit)))
    (l_l_bit : K.lookup f_l_bit = some ⟨oc_l_bit, od_l_bit, .func (PySem.W.fnOf "_law_bit" "_law_bit" (defArgs s_l_bit) (defBody s_l_bit) (defScope s_l_bit) .none kV_l_bit dc_l_bit pm_l_bit an_l_bit cd_l_bit ct_l_bit), sl_l_bit⟩)
    (c_l_bit : PySem.W.codeIn K cd_l_bit "_law_bit" = true)
    (k_l_bit : PySem.W.keepIn K (.ref f_l_bit) = true)
    (a_l_every : PySem.W.nsIn K mainGlobals "_law_every" = some (some (.ref f_l_every)))
    (l_l_every : K.lookup f_l_every = some ⟨oc_l_every, od_l_every, .func (PySem.W.fnOf "_law_every" "_law_every" (defArgs s_l_every) (defBody s_l_every) (defScope s_l_every) .none kV_l_every dc_l_every pm_l_every an_l_every cd_l_every ct_l_every), sl_l_every⟩)
    (c_l_every : PySem.W.codeIn K cd_l_every "_law_every" = true)
    (k_l_every : PySem.W.keepIn K (.ref f_l_every) = true)
    (a_l_guard_of : PySem.W.nsIn K mainGlobals "_law_guard_of" = some (some (.ref f_l_guard_of)))
    (l_l_guard_of : K.lookup f_l_guard_of = some ⟨oc_l_guard_of, od_l_guard_of, .func (PySem.W.fnOf "_law_guard_of" "_law_guard_of" (defArgs s_l_guard_of) (defBody s_l_guard_of) (defScope s_l_guard_of) .none kV_l_guard_of dc_l_guard_of pm_l_guard_of an_l_guard_of cd_l_guard_of ct_l_guard_of), sl_l_guard_of⟩)
    (c_l_guard_of : PySem.W.codeIn K cd_l_guard_of "_law_guard_of" = true)
    (k_l_guard_of : PySem.W.keepIn K (.ref f_l_guard_of) = true)
    (a_l_changed : PySem.W.nsIn K mainGlobals "_law_changed" = some (some (.ref f_l_changed)))
    (l_l_changed : K.lookup f_l_changed = some ⟨oc_l_changed, od_l_changed, .func (PySem.W.fnOf "_law_changed" "_law_changed" (defArgs s_l_changed) (defBody s_l_changed) (defScope s_l_changed) .none kV_l_changed dc_l_changed pm_l_changed an_l_changed cd_l_changed ct_l_changed), sl_l_changed⟩)
    (c_l_changed : PySem.W.codeIn K cd_l_changed "_law_changed" = true)
    (k_l_changed : PySem.W.keepIn K (.ref f_l_changed) = true)
    (a_l_read : PySem.W.nsIn K mainGlobals "_law_read" = some (some (.ref f_l_read)))
    (l_l_read : K.lookup f_l_read = some ⟨oc_l_read, od_l_read, .func (PySem.W.fnOf "_law_read" "_law_read" (defArgs s_l_read) (defBody s_l_read) (defScope s_l_read) .none kV_l_read dc_l_read pm_l_read an_l_read cd_l_read ct_l_read), sl_l_read⟩)
    (c_l_read : PySem.W.codeIn K cd_l_read "_law_read" = true)
    (k_l_read : PySem.W.keepIn K (.ref f_l_read) = true)
    (a_law : PySem.W.nsIn K mainGlobals "law" = some (some (.ref f_law)))
    (l_law : K.lookup f_law = some ⟨oc_law, od_law, .func (PySem.W.fnOf "law" "law" (defArgs s_law) (defBody s_law) (defScope s_law) .none kV_law dc_law pm_law an_law cd_law ct_law), sl_law⟩)
    (c_law : PySem.W.codeIn K cd_law "law" = true)
    (k_law : PySem.W.keepIn K (.ref f_law) = true)
    (cr1_Guard : PySem.W.readsIn K C_Guard (.type "type") = true)
    (cr2_Guard : PySem.W.specialIn K (.ref C_Guard) "__getattribute__" = some (some (.builtin "type.__getattribute__")))
    (a_Guard_read : PySem.W.findCls K (.ref C_Guard) (.type "type") "read" = some (.get (.builtin "classmethod.__get__") (.ref p_Guard_read) .none (.ref C_Guard)))
    (cm2_Guard_read : PySem.W.recIn K p_Guard_read "classmethod" = some (.ref f_Guard_read :: rs_Guard_read))
    (cm3_Guard_read : PySem.W.fnIn K f_Guard_read = true)
    (l_Guard_read : K.lookup f_Guard_read = some ⟨oc_Guard_read, od_Guard_read, .func (PySem.W.fnOf "read" "Guard.read" (defArgs s_Guard_read) (defBody s_Guard_read) (defScope s_Guard_read) .none kV_Guard_read dc_Guard_read pm_Guard_read an_Guard_read cd_Guard_read ct_Guard_read), sl_Guard_read⟩)
    (c_Guard_read : PySem.W.codeIn K cd_Guard_read "Guard.read" = true)
    (k_Guard_read : PySem.W.keepIn K (.ref f_Guard_read) = true)
    : ∃ fd : FuncData, (∀ (s : Shared) (v : Value), BindsTo s fd ⟨[v], []⟩ [("_law_script", v)]) ∧ ∀ base : Heap, K.In base → base.Ns mainGlobals mg → FnOk l.prog w K mg base (L2.CX l.prog w) 7 fa fd ["_law_script"] (spLaw K) := by
  have e := hfa.symm.trans (PySem.W.mg_of X G a_law)
  cases e
  have er_BadGuard : ErC l.prog K "BadGuard.__init__" ["part"] C_BadGuard := er_mk PySem.W.kxs_ValueError PySem.F.excBase_ValueError PySem.F.store_ValueError fm_BadGuard init_BadGuard ty_BadGuard lk_BadGuard hc_BadGuard code_BadGuard hv_BadGuard hf_BadGuard cell_BadGuard ic_BadGuard sub_BadGuard z_super z_tp z_top sup_BadGuard base_BadGuard exc_BadGuard sa_BadGuard ov_BadGuard hd_BadGuard (by
    intro f hf
    simp only [List.mem_cons, List.not_mem_nil, or_false] at hf
    rcases hf with rfl <;> assumption) exC_BadGuard tyC_BadGuard kC_BadGuard
  have er_BadText : ErC l.prog K "BadText.__init__" ["line"] C_BadText := er_mk PySem.W.kxs_ValueError PySem.F.excBase_ValueError PySem.F.store_ValueError fm_BadText init_BadText ty_BadText lk_BadText hc_BadText code_BadText hv_BadText hf_BadText cell_BadText ic_BadText sub_BadText z_super z_tp z_top sup_BadText base_BadText exc_BadText sa_BadText ov_BadText hd_BadText (by
    intro f hf
    simp only [List.mem_cons, List.not_mem_nil, or_false] at hf
    rcases hf with rfl <;> assumption) exC_BadText tyC_BadText kC_BadText
  have Kd_Guard_init : KwdV K (.ref kD_Guard_init) [("act", .str "ring"), ("by", .str "same"), ("keep", .str "none"), ("keep_by", .str "same")] := .inr ⟨kD_Guard_init, rfl, fun q hq => by
    simp only [List.mem_cons, List.not_mem_nil, or_false] at hq
    rcases hq with rfl | rfl | rfl | rfl
    · exact ⟨_, kw0_Guard_init, kr0_Guard_init⟩
    · exact ⟨_, kw1_Guard_init, kr1_Guard_init⟩
    · exact ⟨_, kw2_Guard_init, kr2_Guard_init⟩
    · exact ⟨_, kw3_Guard_init, kr3_Guard_init⟩⟩
  have F_is_choice := fun_mk (st := s_is_choice) l_is_choice c_is_choice k_is_choice
  have F_split_text := fun_mk (st := s_split_text) l_split_text c_split_text k_split_text
  have F_Guard_eq := fun_mk (st := s_Guard_eq) l_Guard_eq c_Guard_eq k_Guard_eq
  have F_Guard_str := fun_mk (st := s_Guard_str) l_Guard_str c_Guard_str k_Guard_str
  have F_l_pen := fun_mk (st := s_l_pen) l_l_pen c_l_pen k_l_pen
  have F_l_take := fun_mk (st := s_l_take) l_l_take c_l_take k_l_take
  have F_l_bit := fun_mk (st := s_l_bit) l_l_bit c_l_bit k_l_bit
  have F_l_every := fun_mk (st := s_l_every) l_l_every c_l_every k_l_every
  have F_l_guard_of := fun_mk (st := s_l_guard_of) l_l_guard_of c_l_guard_of k_l_guard_of
  have F_l_changed := fun_mk (st := s_l_changed) l_l_changed c_l_changed k_l_changed
  have F_l_read := fun_mk (st := s_l_read) l_l_read c_l_read k_l_read
  have F_law := fun_mk (st := s_law) l_law c_law k_law
  have F_Guard_read := fun_mk (st := s_Guard_read) l_Guard_read c_Guard_read k_Guard_read
  have T : Txt l.prog K mg { MARKS := A_MARKS, ACTS := A_ACTS, BY := A_BY, KEEPS := A_KEEPS, BadGuard := C_BadGuard, BadText := C_BadText, Guard := C_Guard, Guard_init := f_Guard_init, fd_Guard_init := PySem.W.fnOf "__init__" "Guard.__init__" (defArgs s_Guard_init) (defBody s_Guard_init) (defScope s_Guard_init) (.ref dT_Guard_init) (.ref kD_Guard_init) dc_Guard_init pm_Guard_init an_Guard_init cd_Guard_init ct_Guard_init, is_choice := f_is_choice, fd_is_choice := PySem.W.fnOf "is_choice" "is_choice" (defArgs s_is_choice) (defBody s_is_choice) (defScope s_is_choice) .none kV_is_choice dc_is_choice pm_is_choice an_is_choice cd_is_choice ct_is_choice, split_text := f_split_text, fd_split_text := PySem.W.fnOf "split_text" "split_text" (defArgs s_split_text) (defBody s_split_text) (defScope s_split_text) .none kV_split_text dc_split_text pm_split_text an_split_text cd_split_text ct_split_text, Guard_eq := f_Guard_eq, fd_Guard_eq := PySem.W.fnOf "__eq__" "Guard.__eq__" (defArgs s_Guard_eq) (defBody s_Guard_eq) (defScope s_Guard_eq) .none kV_Guard_eq dc_Guard_eq pm_Guard_eq an_Guard_eq cd_Guard_eq ct_Guard_eq, Guard_str := f_Guard_str, fd_Guard_str := PySem.W.fnOf "__str__" "Guard.__str__" (defArgs s_Guard_str) (defBody s_Guard_str) (defScope s_Guard_str) .none kV_Guard_str dc_Guard_str pm_Guard_str an_Guard_str cd_Guard_str ct_Guard_str, l_pen := f_l_pen, fd_l_pen := PySem.W.fnOf "_law_pen" "_law_pen" (defArgs s_l_pen) (defBody s_l_pen) (defScope s_l_pen) .none kV_l_pen dc_l_pen pm_l_pen an_l_pen cd_l_pen ct_l_pen, l_take := f_l_take, fd_l_take := PySem.W.fnOf "_law_take" "_law_take" (defArgs s_l_take) (defBody s_l_take) (defScope s_l_take) .none kV_l_take dc_l_take pm_l_take an_l_take cd_l_take ct_l_take, l_bit := f_l_bit, fd_l_bit := PySem.W.fnOf "_law_bit" "_law_bit" (defArgs s_l_bit) (defBody s_l_bit) (defScope s_l_bit) .none kV_l_bit dc_l_bit pm_l_bit an_l_bit cd_l_bit ct_l_bit, l_every := f_l_every, fd_l_every := PySem.W.fnOf "_law_every" "_law_every" (defArgs s_l_every) (defBody s_l_every) (defScope s_l_every) .none kV_l_every dc_l_every pm_l_every an_l_every cd_l_every ct_l_every, l_guard_of := f_l_guard_of, fd_l_guard_of := PySem.W.fnOf "_law_guard_of" "_law_guard_of" (defArgs s_l_guard_of) (defBody s_l_guard_of) (defScope s_l_guard_of) .none kV_l_guard_of dc_l_guard_of pm_l_guard_of an_l_guard_of cd_l_guard_of ct_l_guard_of, l_changed := f_l_changed, fd_l_changed := PySem.W.fnOf "_law_changed" "_law_changed" (defArgs s_l_changed) (defBody s_l_changed) (defScope s_l_changed) .none kV_l_changed dc_l_changed pm_l_changed an_l_changed cd_l_changed ct_l_changed, l_read := f_l_read, fd_l_read := PySem.W.fnOf "_law_read" "_law_read" (defArgs s_l_read) (defBody s_l_read) (defScope s_l_read) .none kV_l_read dc_l_read pm_l_read an_l_read cd_l_read ct_l_read, law := fa, fd_law := PySem.W.fnOf "law" "law" (defArgs s_law) (defBody s_law) (defScope s_law) .none kV_law dc_law pm_law an_law cd_law ct_law, Guard_read := f_Guard_read, fd_Guard_read := PySem.W.fnOf "read" "Guard.read" (defArgs s_Guard_read) (defBody s_Guard_read) (defScope s_Guard_read) .none kV_Guard_read dc_Guard_read pm_Guard_read an_Guard_read cd_Guard_read ct_Guard_read, p_Guard_read := p_Guard_read } := {
    n_len := PySem.W.mg_none_of X G z_len,
    n_int := PySem.W.mg_none_of X G z_int,
    n_list := PySem.W.mg_none_of X G z_list,
    n_range := PySem.W.mg_none_of X G z_range,
    n_isinstance := PySem.W.mg_none_of X G z_isinstance,
    n_str := PySem.W.mg_none_of X G z_str,
    c_MARKS := sqt_mk lt_MARKS ls_MARKS lv_MARKS,
    g_MARKS := PySem.W.mg_of X G aG_MARKS,
    c_ACTS := sqt_mk lt_ACTS ls_ACTS lv_ACTS,
    g_ACTS := PySem.W.mg_of X G aG_ACTS,
    c_BY := sqt_mk lt_BY ls_BY lv_BY,
    g_BY := PySem.W.mg_of X G aG_BY,
    c_KEEPS := sqt_mk lt_KEEPS ls_KEEPS lv_KEEPS,
    g_KEEPS := PySem.W.mg_of X G aG_KEEPS,
    g_BadGuard := PySem.W.mg_of X G aC_BadGuard,
    er_BadGuard := er_BadGuard,
    te_BadGuard := exm_self exC_BadGuard ic_BadGuard tyC_BadGuard su_BadGuard,
    xf_BadGuard := ⟨ga_BadGuard, gg_BadGuard, exC_BadGuard, hd_BadGuard⟩,
    no_BadGuard_part := no_BadGuard_part,
    g_BadText := PySem.W.mg_of X G aC_BadText,
    er_BadText := er_BadText,
    te_BadText := exm_self exC_BadText ic_BadText tyC_BadText su_BadText,
    xf_BadText := ⟨ga_BadText, gg_BadText, exC_BadText, hd_BadText⟩,
    no_BadText_line := no_BadText_line,
    g_Guard := PySem.W.mg_of X G aC_Guard,
    ow_Guard := own_mk pg_Guard hd_Guard po_Guard sa_Guard ha_Guard hn_Guard ht_Guard hm_Guard k1_Guard b1_Guard b2_Guard b3_Guard b4_Guard b5_Guard b6_Guard b7_Guard,
    no_Guard_mark := no_Guard_mark,
    no_Guard_act := no_Guard_act,
    no_Guard_by := no_Guard_by,
    no_Guard_keep := no_Guard_keep,
    no_Guard_keep_by := no_Guard_keep_by,
    nf_Guard := nf_mk nf1_Guard nf2_Guard nf3_Guard nf4_Guard nf5_Guard nf6_Guard nf7_Guard,
    nfo_Guard := nfo_Guard,
    F_Guard_init := ⟨⟨_, _, _, _, _, _, _, _, _, _, rfl, l_Guard_init, c_Guard_init, (dflt_mk dl_Guard_init dv_Guard_init (by simp)), Kd_Guard_init⟩, k_Guard_init⟩,
    g_is_choice := PySem.W.mg_of X G a_is_choice,
    F_is_choice := F_is_choice,
    b_is_choice := F_is_choice.binds (ps := ["thing", "choices"]) fun _ _ _ _ _ _ us hl => match us, hl with | [_, _], _ => rfl,
    g_split_text := PySem.W.mg_of X G a_split_text,
    F_split_text := F_split_text,
    b_split_text := F_split_text.binds (ps := ["text"]) fun _ _ _ _ _ _ us hl => match us, hl with | [_], _ => rfl,
    F_Guard_eq := F_Guard_eq,
    b_Guard_eq := F_Guard_eq.binds (ps := ["self", "other"]) fun _ _ _ _ _ _ us hl => match us, hl with | [_, _], _ => rfl,
    me_Guard_eq := ⟨a_Guard_eq, i_Guard_eq, k_Guard_eq⟩,
    F_Guard_str := F_Guard_str,
    b_Guard_str := F_Guard_str.binds (ps := ["self"]) fun _ _ _ _ _ _ us hl => match us, hl with | [_], _ => rfl,
    me_Guard_str := ⟨a_Guard_str, i_Guard_str, k_Guard_str⟩,
    g_l_pen := PySem.W.mg_of X G a_l_pen,
    F_l_pen := F_l_pen,
    b_l_pen := F_l_pen.binds (ps := ["_law_script"]) fun _ _ _ _ _ _ us hl => match us, hl with | [_], _ => rfl,
    g_l_take := PySem.W.mg_of X G a_l_take,
    F_l_take := F_l_take,
    b_l_take := F_l_take.binds (ps := ["_law_pen_here", "_law_bound"]) fun _ _ _ _ _ _ us hl => match us, hl with | [_, _], _ => rfl,
    g_l_bit := PySem.W.mg_of X G a_l_bit,
    F_l_bit := F_l_bit,
    b_l_bit := F_l_bit.binds (ps := ["_law_pen_here", "_law_bound"]) fun _ _ _ _ _ _ us hl => match us, hl with | [_, _], _ => rfl,
    g_l_every := PySem.W.mg_of X G a_l_every,
    F_l_every := F_l_every,
    b_l_every := F_l_every.binds (ps := []) fun _ _ _ _ _ _ us hl => match us, hl with | [], _ => rfl,
    g_l_guard_of := PySem.W.mg_of X G a_l_guard_of,
    F_l_guard_of := F_l_guard_of,
    b_l_guard_of := F_l_guard_of.binds (ps := ["_law_text"]) fun _ _ _ _ _ _ us hl => match us, hl with | [_], _ => rfl,
    g_l_changed := PySem.W.mg_of X G a_l_changed,
    F_l_changed := F_l_changed,
    b_l_changed := F_l_changed.binds (ps := ["_law_pen_here", "_law_text"]) fun _ _ _ _ _ _ us hl => match us, hl with | [_, _], _ => rfl,
    g_l_read := PySem.W.mg_of X G a_l_read,
    F_l_read := F_l_read,
    b_l_read := F_l_read.binds (ps := ["_law_text"]) fun _ _ _ _ _ _ us hl => match us, hl with | [_], _ => rfl,
    F_law := F_law,
    F_Guard_read := F_Guard_read,
    b_Guard_read := F_Guard_read.binds (ps := ["cls", "text"]) fun _ _ _ _ _ _ us hl => match us, hl with | [_, _], _ => rfl,
    cr_Guard := ⟨cr1_Guard, cr2_Guard⟩,
    cm_Guard_read := ⟨a_Guard_read, ⟨_, cm2_Guard_read⟩, cm3_Guard_read⟩,
    mk_Guard := ⟨mk_Guard, a_Guard_init, i_Guard_init, kc_Guard⟩ }
  exact ⟨PySem.W.fnOf "law" "law" (defArgs s_law) (defBody s_law) (defScope s_law) .none kV_law dc_law pm_law an_law cd_law ct_law, fun s v => .of_eq rfl, fun base _ _ => ok_law T⟩
theorem walk {l : PySem.W.OpenLaw} {q : Program} {loose : List Str} {XP : (Str → Option Value) → Heap → Prop} {YP : World → Heap → Prop} {d : DefRec} {K : Params → PySem.W.Frag} (hn : l.most = some 63) (hdf : d.params.defaults = [])
    (hY : ∀ (w : World) (h : Heap), YP w h → (K w.params).In h)
    (F : ∀ (w : World) (mg : Str → Option Value) (fa : Addr) (h : Heap), (K w.params).In h → h.Ns mainGlobals mg → mg d.name = some (.ref fa) →
      ∃ fd : FuncData, (∀ (s : Shared) (u : Value), BindsTo s fd ⟨[u], []⟩ [("_law_script", u)]) ∧ ∀ base : Heap, (K w.params).In base → base.Ns mainGlobals mg → FnOk l.prog w (K w.params) mg base (L2.CX l.prog w) 7 fa fd ["_law_script"] (spLaw (K w.params))) :
    PySem.W.WalkO q loose XP YP l.row.toRowW d [] (fun f vs => PySem.call f vs) :=
  L2.walk_of (n := 63) (k := 7) (x := "_law_script") (CX := fun w => L2.CX l.prog w) (sp := fun w => spLaw (K w.params)) hn (by decide) hdf ⟨rfl, by decide, by decide⟩ hY F (fun _ _ a ns hl _ hS => ⟨a, ns, rfl, hS, fun _ => rfl⟩) fun _ _ _ _ _ z => cx_none z
end Wm

open PySem PySem.W PyProof.Rows in
set_option maxRecDepth 100000 in
set_option maxHeartbeats 0 in
theorem PySem.Challenge.cw_walkmarks_k22_whole_guard_texts_holds : PySem.Challenge.rw_walkmarks_k22_whole_guard_texts.Holds := by
  w_on; o_law; k_head; (case hw => w_witness2)
  k_fill
  refine Wm.walk (l := PySem.Challenge.rw_walkmarks_k22_whole_guard_texts) rfl rfl (fun w h Y => PySem.W.kIn_of Y) ?F
  case F =>
    intro w mg fa h KX G hmg
    refine' Wm.all_mk KX G hmg ?z_len ?z_int ?z_list ?z_range ?z_isinstance ?z_str ?aG_MARKS ?lt_MARKS ?ls_MARKS ?lv_MARKS ?aG_ACTS ?lt_ACTS ?ls_ACTS ?lv_ACTS ?aG_BY ?lt_BY ?ls_BY ?lv_BY ?aG_KEEPS ?lt_KEEPS ?ls_KEEPS ?lv_KEEPS ?aC_BadGuard ?init_BadGuard ?ty_BadGuard ?lk_BadGuard ?hc_BadGuard ?code_BadGuard ?hv_BadGuard ?hf_BadGuard ?cell_BadGuard ?ic_BadGuard ?sub_BadGuard ?z_super ?z_tp ?z_top ?sup_BadGuard ?base_BadGuard ?exc_BadGuard ?sa_BadGuard ?ov_BadGuard ?hd_BadGuard ?no_BadGuard_part ?exC_BadGuard ?tyC_BadGuard ?kC_BadGuard ?su_BadGuard ?ga_BadGuard ?gg_BadGuard ?aC_BadText ?init_BadText ?ty_BadText ?lk_BadText ?hc_BadText ?code_BadText ?hv_BadText ?hf_BadText ?cell_BadText ?ic_BadText ?sub_BadText ?sup_BadText ?base_BadText ?exc_BadText ?sa_BadText ?ov_BadText ?hd_BadText ?no_BadText_line ?exC_BadText ?tyC_BadText ?kC_BadText ?su_BadText ?ga_BadText ?gg_BadText ?aC_Guard ?pg_Guard ?hd_Guard ?po_Guard ?sa_Guard ?ha_Guard ?hn_Guard ?ht_Guard ?hm_Guard ?k1_Guard ?b1_Guard ?b2_Guard ?b3_Guard ?b4_Guard ?b5_Guard ?b6_Guard ?b7_Guard ?no_Guard_mark ?no_Guard_act ?no_Guard_by ?no_Guard_keep ?no_Guard_keep_by ?nf1_Guard ?nf2_Guard ?nf3_Guard ?nf4_Guard ?nf5_Guard ?nf6_Guard ?nf7_Guard ?nfo_Guard ?mk_Guard ?kc_Guard ?a_Guard_init ?i_Guard_init ?l_Guard_init ?c_Guard_init ?k_Guard_init ?dl_Guard_init ?dv_Guard_init ?kw0_Guard_init ?kr0_Guard_init ?kw1_Guard_init ?kr1_Guard_init ?kw2_Guard_init ?kr2_Guard_init ?kw3_Guard_init ?kr3_Guard_init ?a_is_choice ?l_is_choice ?c_is_choice ?k_is_choice ?a_split_text ?l_split_text ?c_split_text ?k_split_text ?a_Guard_eq ?i_Guard_eq ?l_Guard_eq ?c_Guard_eq ?k_Guard_eq ?a_Guard_str ?i_Guard_str ?l_Guard_str ?c_Guard_str ?k_Guard_str ?a_l_pen ?l_l_pen ?c_l_pen ?k_l_pen ?a_l_take ?l_l_take ?c_l_take ?k_l_take ?a_l_bit ?l_l_bit ?c_l_bit ?k_l_bit ?a_l_every ?l_l_every ?c_l_every ?k_l_every ?a_l_guard_of ?l_l_guard_of ?c_l_guard_of ?k_l_guard_of ?a_l_changed ?l_l_changed ?c_l_changed ?k_l_changed ?a_l_read ?l_l_read ?c_l_read ?k_l_read ?a_law ?l_law ?c_law ?k_law ?cr1_Guard ?cr2_Guard ?a_Guard_read ?cm2_Guard_read ?cm3_Guard_read ?l_Guard_read ?c_Guard_read ?k_Guard_read
    (case z_len => walk_at "w_leaf")
    (case z_int => walk_at "w_leaf")
    (case z_list => walk_at "w_leaf")
    (case z_range => walk_at "w_leaf")
    (case z_isinstance => walk_at "w_leaf")
    (case z_str => walk_at "w_leaf")
    (case aG_MARKS => walk_at "w_leaf")
    (case lt_MARKS => walk_at "w_leaf")
    (case ls_MARKS => walk_at "w_leaf")
    (case lv_MARKS => walk_at "w_vals")
    (case aG_ACTS => walk_at "w_leaf")
    (case lt_ACTS => walk_at "w_leaf")
    (case ls_ACTS => walk_at "w_leaf")
    (case lv_ACTS => walk_at "w_vals")
    (case aG_BY => walk_at "w_leaf")
    (case lt_BY => walk_at "w_leaf")
    (case ls_BY => walk_at "w_leaf")
    (case lv_BY => walk_at "w_vals")
    (case aG_KEEPS => walk_at "w_leaf")
    (case lt_KEEPS => walk_at "w_leaf")
    (case ls_KEEPS => walk_at "w_leaf")
    (case lv_KEEPS => walk_at "w_vals")
    (case aC_BadGuard => walk_at "w_leaf")
    (case init_BadGuard => walk_at "w_leaf")
    (case ty_BadGuard => walk_at "w_leaf")
    (case lk_BadGuard => walk_at "w_leaf")
    (case hc_BadGuard => walk_at "w_leaf")
    (case code_BadGuard => walk_at "w_leaf")
    (case hv_BadGuard => walk_at "w_leaf")
    (case hf_BadGuard => walk_at "w_leaf")
    (case cell_BadGuard => walk_at "w_leaf")
    (case ic_BadGuard => walk_at "w_leaf")
    (case sub_BadGuard => walk_at "w_leaf")
    (case z_super => walk_at "w_leaf")
    (case z_tp => walk_at "w_leaf")
    (case z_top => walk_at "w_leaf")
    (case sup_BadGuard => walk_at "w_leaf")
    (case base_BadGuard => walk_at "w_leaf")
    (case exc_BadGuard => walk_at "w_leaf")
    (case sa_BadGuard => walk_at "w_leaf")
    (case ov_BadGuard => walk_at "w_leaf")
    (case hd_BadGuard => walk_at "w_leaf")
    (case no_BadGuard_part => walk_at "w_leaf")
    (case exC_BadGuard => walk_at "w_leaf")
    (case tyC_BadGuard => walk_at "w_leaf")
    (case kC_BadGuard => walk_at "w_leaf")
    (case su_BadGuard => walk_at "w_leaf")
    (case ga_BadGuard => walk_at "w_leaf")
    (case gg_BadGuard => walk_at "w_leaf")
    (case aC_BadText => walk_at "w_leaf")
    (case init_BadText => walk_at "w_leaf")
    (case ty_BadText => walk_at "w_leaf")
    (case lk_BadText => walk_at "w_leaf")
    (case hc_BadText => walk_at "w_leaf")
    (case code_BadText => walk_at "w_leaf")
    (case hv_BadText => walk_at "w_leaf")
    (case hf_BadText => walk_at "w_leaf")
    (case cell_BadText => walk_at "w_leaf")
    (case ic_BadText => walk_at "w_leaf")
    (case sub_BadText => walk_at "w_leaf")
    (case sup_BadText => walk_at "w_leaf")
    (case base_BadText => walk_at "w_leaf")
    (case exc_BadText => walk_at "w_leaf")
    (case sa_BadText => walk_at "w_leaf")
    (case ov_BadText => walk_at "w_leaf")
    (case hd_BadText => walk_at "w_leaf")
    (case no_BadText_line => walk_at "w_leaf")
    (case exC_BadText => walk_at "w_leaf")
    (case tyC_BadText => walk_at "w_leaf")
    (case kC_BadText => walk_at "w_leaf")
    (case su_BadText => walk_at "w_leaf")
    (case ga_BadText => walk_at "w_leaf")
    (case gg_BadText => walk_at "w_leaf")
    (case aC_Guard => walk_at "w_leaf")
    (case pg_Guard => walk_at "w_leaf")
    (case hd_Guard => walk_at "w_leaf")
    (case po_Guard => walk_at "w_leaf")
    (case sa_Guard => walk_at "w_leaf")
    (case ha_Guard => walk_at "w_leaf")
    (case hn_Guard => walk_at "w_leaf")
    (case ht_Guard => walk_at "w_leaf")
    (case hm_Guard => walk_at "w_leaf")
    (case k1_Guard => walk_at "w_leaf")
    (case b1_Guard => walk_at "w_leaf")
    (case b2_Guard => walk_at "w_leaf")
    (case b3_Guard => walk_at "w_leaf")
    (case b4_Guard => walk_at "w_leaf")
    (case b5_Guard => walk_at "w_leaf")
    (case b6_Guard => walk_at "w_leaf")
    (case b7_Guard => walk_at "w_leaf")
    (case no_Guard_mark => walk_at "w_leaf")
    (case no_Guard_act => walk_at "w_leaf")
    (case no_Guard_by => walk_at "w_leaf")
    (case no_Guard_keep => walk_at "w_leaf")
    (case no_Guard_keep_by => walk_at "w_leaf")
    (case nf1_Guard => walk_at "w_leaf")
    (case nf2_Guard => walk_at "w_leaf")
    (case nf3_Guard => walk_at "w_leaf")
    (case nf4_Guard => walk_at "w_leaf")
    (case nf5_Guard => walk_at "w_leaf")
    (case nf6_Guard => walk_at "w_leaf")
    (case nf7_Guard => walk_at "w_leaf")
    (case nfo_Guard => walk_at "w_leaf")
    (case mk_Guard => walk_at "w_leaf")
    (case kc_Guard => walk_at "w_leaf")
    (case a_Guard_init => walk_at "w_leaf")
    (case i_Guard_init => walk_at "w_leaf")
    (case l_Guard_init => walk_at "w_leaf")
    (case c_Guard_init => walk_at "w_leaf")
    (case k_Guard_init => walk_at "w_leaf")
    (case dl_Guard_init => walk_at "w_leaf")
    (case dv_Guard_init => walk_at "w_vals")
    (case kw0_Guard_init => walk_at "w_leaf")
    (case kr0_Guard_init => walk_at "w_rel")
    (case kw1_Guard_init => walk_at "w_leaf")
    (case kr1_Guard_init => walk_at "w_rel")
    (case kw2_Guard_init => walk_at "w_leaf")
    (case kr2_Guard_init => walk_at "w_rel")
    (case kw3_Guard_init => walk_at "w_leaf")
    (case kr3_Guard_init => walk_at "w_rel")
    (case a_is_choice => walk_at "w_leaf")
    (case l_is_choice => walk_at "w_leaf")
    (case c_is_choice => walk_at "w_leaf")
    (case k_is_choice => walk_at "w_leaf")
    (case a_split_text => walk_at "w_leaf")
    (case l_split_text => walk_at "w_leaf")
    (case c_split_text => walk_at "w_leaf")
    (case k_split_text => walk_at "w_leaf")
    (case a_Guard_eq => walk_at "w_leaf")
    (case i_Guard_eq => walk_at "w_leaf")
    (case l_Guard_eq => walk_at "w_leaf")
    (case c_Guard_eq => walk_at "w_leaf")
    (case k_Guard_eq => walk_at "w_leaf")
    (case a_Guard_str => walk_at "w_leaf")
    (case i_Guard_str => walk_at "w_leaf")
    (case l_Guard_str => walk_at "w_leaf")
    (case c_Guard_str => walk_at "w_leaf")
    (case k_Guard_str => walk_at "w_leaf")
    (case a_l_pen => walk_at "w_leaf")
    (case l_l_pen => walk_at "w_leaf")
    (case c_l_pen => walk_at "w_leaf")
    (case k_l_pen => walk_at "w_leaf")
    (case a_l_take => walk_at "w_leaf")
    (case l_l_take => walk_at "w_leaf")
    (case c_l_take => walk_at "w_leaf")
    (case k_l_take => walk_at "w_leaf")
    (case a_l_bit => walk_at "w_leaf")
    (case l_l_bit => walk_at "w_leaf")
    (case c_l_bit => walk_at "w_leaf")
    (case k_l_bit => walk_at "w_leaf")
    (case a_l_every => walk_at "w_leaf")
    (case l_l_every => walk_at "w_leaf")
    (case c_l_every => walk_at "w_leaf")
    (case k_l_every => walk_at "w_leaf")
    (case a_l_guard_of => walk_at "w_leaf")
    (case l_l_guard_of => walk_at "w_leaf")
    (case c_l_guard_of => walk_at "w_leaf")
    (case k_l_guard_of => walk_at "w_leaf")
    (case a_l_changed => walk_at "w_leaf")
    (case l_l_changed => walk_at "w_leaf")
    (case c_l_changed => walk_at "w_leaf")
    (case k_l_changed => walk_at "w_leaf")
    (case a_l_read => walk_at "w_leaf")
    (case l_l_read => walk_at "w_leaf")
    (case c_l_read => walk_at "w_leaf")
    (case k_l_read => walk_at "w_leaf")
    (case a_law => walk_at "w_leaf")
    (case l_law => walk_at "w_leaf")
    (case c_law => walk_at "w_leaf")
    (case k_law => walk_at "w_leaf")
    (case cr1_Guard => walk_at "w_leaf")
    (case cr2_Guard => walk_at "w_leaf")
    (case a_Guard_read => walk_at "w_leaf")
    (case cm2_Guard_read => walk_at "w_leaf")
    (case cm3_Guard_read => walk_at "w_leaf")
    (case l_Guard_read => walk_at "w_leaf")
    (case c_Guard_read => walk_at "w_leaf")
    (case k_Guard_read => walk_at "w_leaf")
