import PyProof.Rows.All
import Wide.All
import OpenK.AllK
import Wide.FinOn
import KE.KExcSuper
import HandS.List
import HandS.Exc
import HandS.ExcOwn
import HandS.ExcInit
import HandS.ExcField
import HandS.WordsExc
import HandS.ForMost
import HandS.Wide
import HandS.IsInst
import HandS.MakeKwOnly
import HandS.ClsMeth
import KE.Datum
import KE.KExcLine
import HandS.TryOnly
import HandS.Evl
import HandS.Comp
import HandS.Star
import HandS.More
import HandS.DeepEq
import HandS.ExcIs
import HandS.ExcValue
import HandS.Text
import HandS.FStr
import KE.KCallOwn
import HandS.Strs
import HandS.Zip
import HandS.Walk
import KE.DataEq
import HandS.Rev
import HandS.Conv
import KE.KDictList
import PyProof.TupleOfSeq
import PyProof.AutoSeq1
import OpenK.KMeth
import HandS.FStrTup
import PyProof.ReprHeads
import PyProof.ReprHeadsEmpty
import PyProof.ReprReads
import PyProof.StrHeap
import PyProof.ReprLen
import PyProof.StrLawsRepr
import KE.GoesEnum
import KE.DatumMore
import HandS.Flow
import PyProof.StrLawsTight
import PyProof.StrLawsChain
import HandS.TupAny
import OpenK.KOps
import KE.KDictPairs
import HandS.DictComp
import PyProof.ReprRoads
import PyProof.ReprBulk
import HandS.Ends
import HandS.TupLe
import KE.KEqNest
import HandS.DictEq
import HandS.TryMany
import PyProof.FString
import HandS.RaiseMore
import PyProof.Rows.StrItems
import KE.KIntText
import PySem.Challenge.RW_walkmarks_k38_walkers_compared
set_option Elab.async false
set_option linter.all false
set_option maxRecDepth 400000
set_option maxHeartbeats 4000000
namespace PySem
namespace Er
open PySem.W PySem.Calls PyProof.Rows PySem.HandSPX
def supCall (a1 a2 a3 a4 a5 a6 : Pos) (t : Str) : Stmt :=
  .Expr (.Call (.Attribute (.Call (.Name "super" a1) [] [] a2) "__init__" a3) [.Constant (.str t) 0 a4] [] a5) a6
structure SupTxt (prog : Program) (K : Frag) (C cda cc : Addr) (B newId initId : String) (bmB : List Value) : Prop where
  code : ∃ ccl cdd ccs, ∃ (vs : Array Value) (file : Str) (tf : Tok), K.lookup cda = some ⟨ccl, cdd, .fields vs, ccs⟩ ∧ vs[2]? = some (.str file tf) ∧ ((prog.main.file : Str) == file) = true
  cell : ∃ cl cld csl, K.lookup cc = some ⟨cl, cld, .cell (some (.ref C)), csl⟩
  cls : ∃ cd, clsIn K C = some cd
  sub : mroIn K C (.ref C) = some true
  noS : nsIn K mainGlobals "super" = some none
  noT : nsIn K cStatics "thirdparty.any" = some none
  top : (prog.main.scope.names.lookup ("super" : Str)).isSome = false
  sup : ks_superIn K C C "__init__" = some (some (.builtin initId))
  base : subIn K (.ref C) (.type B) = some true
  exc : excInitIn K C bmB newId = true
section
variable {prog : Program} {w : World} {A : Around} {E : Value → Shared → Prop} {K : Frag} {mg mb : Str → Option Value} {C fI cda cc : Addr} {B newId initId : String} {bmB : List Value}
theorem er_loadG {s : Shared} {env : Env} {Q : Value → Shared → Prop} (hk : env.scope.kind = .function) (hx : env.kindOf "super" = some .globalImplicit) (hg : s.heap.Ns env.globals mg) (hb : s.heap.Ns env.builtins mb)
    (n : mg "super" = none) (b : mb "super" = some (.type "super")) (h : Q (.type "super") s) : wpAny (model prog w) A (loadName env "super") Q E s :=
  ks_loadName_global hk hx (loadGlobal_builtin (env := env) hg n hb b h)
theorem er_super {h₀ h : Heap} {g : Array GenState} {d : Drawn} {tk : Nat} {os : OsState} {x t0 L : Addr} {m : Str → Option Value} {q : Str} {scope : Scope} {full rest : List Stmt} {fd : FuncData} {oc : Value} {od : Option Addr} {osl : Array (Option Value)} {ar : Arg}
    {a1 a2 a3 a4 a5 a6 : Pos} {t : Str} {Q : Flow → Shared → Prop}
    (T : SupTxt prog K C cda cc B newId initId bmB) (KF : KxsFacts B initId) (FB : ExcBaseFacts B newId initId bmB) (F : Fr h₀ L h m) (X₀ : K.In h₀) (hx : News h₀ L h [(x, excObj C t0 none .none)])
    (hg : h₀.Ns mainGlobals mg) (hb : h₀.Ns builtinsNs mb) (hmb : mb "super" = bootBuiltins "super")
    (hf : K.lookup fI = some ⟨oc, od, .func fd, osl⟩) (hp : (fd.params.posonlyargs ++ fd.params.args).head? = some ar) (har : m ar.arg = some (.ref x)) (hks : scope.names.lookup ("super" : Str) = some .globalImplicit)
    {pl : Sem Bool} (he : eval (.Call (.Attribute (.Call (.Name "super" a1) [] [] a2) "__init__" a3) [.Constant (.str t) 0 a4] [] a5) (ksEnv q scope L fI (.ref cda) cc) = (do
      let ov ← attributeBase (.Call (.Name "super" a1) [] [] a2) "__init__" (ksEnv q scope L fI (.ref cda) cc) (eval (.Call (.Name "super" a1) [] [] a2) (ksEnv q scope L fI (.ref cda) cc))
      standAt a3.atName
      let (f, first) ← holding [ov] (getMethod ov "__init__" pl)
      callWith a5 f first (backTo a5 (starEach [.Constant (.str t) 0 a4] (ksEnv q scope L fI (.ref cda) cc))) []))
    (hkc : scope.names.lookup ("__class__" : Str) = some .free) (hka : scope.names.lookup ar.arg = some .local) (hk : scope.kind = .function)
    (hq : ∀ h' tk' t', Fr h₀ L h' m → h'.get? x = some (excObj C t' none .none) → wpAny (model prog w) A (execs rest (ksEnv q scope L fI (.ref cda) cc)) Q E ⟨h', g, d, tk', os⟩) :
    _root_.PySem.wpAt (model prog w) A (.func full (ksEnv q scope L fI (.ref cda) cc)) (execs (supCall a1 a2 a3 a4 a5 a6 t :: rest) (ksEnv q scope L fI (.ref cda) cc)) Q E ⟨h, g, d, tk, os⟩ := by
  obtain ⟨ccl, cdd, ccs, vs, file, tf, hcode, hvs, hfile⟩ := T.code
  obtain ⟨cl, cld, csl, hcell⟩ := T.cell
  obtain ⟨cd, hD⟩ := T.cls
  have X : K.In h := X₀.keeps F.keep
  have I : InstAt h x (excObj C t0 none .none) C none := .of_exc0 hx (by simp)
  obtain ⟨oD, hD1, hD2⟩ : ∃ oD, h.get? C = some oD ∧ oD.data = .cls cd := by
    unfold clsIn at hD
    split at hD
    · rename_i c d cd' sl ho
      cases hD
      exact ⟨_, X _ _ ho, rfl⟩
    · cases hD
  refine ks_wpAt_execs_cons (ks_wpAt_Expr_any (ks_wpAt_MethodCall ?_ he) ?_ (by rfl))
  · refine ks_wpAt_super_base (env := ksEnv q scope L fI (.ref cda) cc) hks hkc (by decide) rfl (X _ _ hf) rfl hp rfl (X _ _ hcode) rfl hvs hfile T.top ?_
    refine er_loadG (env := ksEnv q scope L fI (.ref cda) cc) hk hks (hg.keeps F.keep) (hb.keeps F.keep) (mg_none_of X₀ hg T.noS) (hmb.trans (by first | rfl | decide +kernel)) ⟨rfl, ?_⟩
    refine wpAny_loadName_free hk hkc rfl ⟨_, X _ _ hcell, rfl⟩ ?_
    refine wpAny_loadName_local hk hka F.ns har ?_
    refine ks_wpAny_isType_cls hD1 hD2 ⟨rfl, ?_⟩
    refine ks_wpAny_call_super hD1 hD2 I.at_ I.cls (fun c e => ?_) (looks_mroIn X T.sub) (fun h' e k => ?_)
    · cases e
    obtain ⟨F1, N1, l1⟩ := ks_newsPush (s := ⟨h, g, d, tk, os⟩) F hx rfl e k
    have I1 : InstAt h' x (excObj C t0 none .none) C none := .of_exc0 N1 (by simp)
    refine kxs_method (s := ⟨h', g, d, tk, os⟩) (D := C) (x := x) (C := C) KF F1 X₀ N1 (by simp) I1 T.noT T.sup T.base (by decide) (fun u h2 F2 N2 l2 => ?_)
    refine kxs_callWith1 (u := u) (x := x) (i := initId) N2 (by simp) ?_
    refine spliced_cons ?_
    refine Calls.Constant_str (pos := a4) (k := 0) ?_
    refine spliced_nil ?_
    refine ⟨kxs_at N2 (by simp), ?_⟩
    have ne1 : h.objs.size ≠ x := fun z => by
      have := l1 (x, excObj C t0 none .none) (by simp)
      exact absurd (show x < h.objs.size from this) (by rw [z]; exact Nat.lt_irrefl _)
    have ne2 : u ≠ x := fun z => by
      have := l2 (x, excObj C t0 none .none) (by simp)
      exact absurd (show x < u from this) (by rw [z]; exact Nat.lt_irrefl _)
    refine kxs_call (u := u) (x := x) (C := C) (t := t0) (dv := none) (c2 := .none) (B := B) (newId := newId) (i := initId) F2 X₀ N2 FB T.exc (by simp) (.tail ne2 (.tail ne1 (.head (by simp)))) (by rw [sizeLine_eq]; exact (by decide : 1 ≤ 16777216)) (fun t' h3 F3 N3 _ => ?_)
    refine wpAt_of_wpAny (hq h3 _ t' F3 (N3 (x, excObj C t' none .none) (by simp)).1)
  · simp [interactive, hk]
end
end Er
end PySem
namespace PySem
namespace Er
open PySem.W PySem.Calls PyProof.Rows PySem.HandSPX
section
variable {prog : Program} {w : World} {A : Around} {E : Value → Shared → Prop} {K : Frag} {C : Addr} {B : String} {bmB : List Value} {hp : Heap} {g : Array GenState} {d : Drawn} {t : Nat} {os : OsState}
theorem taker_none {f : Str} (ha : findIn K (.ref C) f = some none) : takerIn K C f = some none := by
  unfold takerIn
  rw [ha]
  rfl
theorem er_set_new {x t0 : Addr} {f : Str} {v : Value} {Q : Unit → Shared → Prop} (SF : StoreFacts B bmB "object.__setattr__" "object") (X : K.In hp) (hx : hp.get? x = some (excObj C t0 none .none))
    (hs : findIn K (.ref C) "__setattr__" = some (some (.builtin "object.__setattr__"))) (ho : excOver K C bmB = true) (hh : hasDictIn K C = true) (ha : findIn K (.ref C) f = some none)
    (hq : ∀ h' tk' dx, (∀ b o, b ≠ x → hp.get? b = some o → h'.get? b = some o) → hp.objs.size ≤ dx → dx ≠ x → h'.get? x = some (excObj C t0 (some dx) .none) →
      h'.Ns1 dx (fun y => if y = f then some v else none) → Q () ⟨h', g, d, tk', os⟩) : wpAny (model prog w) A (setAttr (.ref x) f v) Q E ⟨hp, g, d, t, os⟩ := by
  obtain ⟨cd, hc, hd'⟩ := any_some hh
  have hxs : x ≠ hp.objs.size := Nat.ne_of_lt (Heap.lt_size hx)
  refine set_plain (od := none) X ⟨hx, rfl, rfl, trivial⟩ hs (osa_openX (od := none) (r := none) SF X ⟨hx, rfl, rfl, trivial⟩ ho (taker_none ha) fun b => ?_)
  refine wpAny_bind (wpAny_pure (wpAny_bind (instanceDict_exc (s := ⟨hp, g, d, t + 1, os⟩) hx (looks_clsIn X hc) hd' ?_)))
  show wpAny _ _ (Builtin.ObjectAttr.storeInDict hp.objs.size (.str f _) f v) _ _ ⟨_, g, d, _, os⟩
  refine store_in_new ?_ fun h' tk' hn' hs' => ?_
  · exact ⟨dictOf [] 0, #[], 0, (Heap.get?_update_ne _ _ _ _ hxs.symm).trans (Heap.get?_push_at rfl rfl), rfl, fun e he => absurd he (by simp), fun _ => rfl⟩
  · have hx1 : (hp.push (dictOf [] 0)).get? x = some (excObj C t0 none .none) := Heap.get?_push_of_some _ hx
    refine hq h' tk' hp.objs.size (fun b o hb ho => ?_) (Nat.le_refl _) hxs.symm ?_ hn'
    · exact (hs'.2 b (Nat.ne_of_lt (Heap.lt_size ho))).trans ((Heap.get?_update_ne _ _ _ _ hb).trans (Heap.get?_push_of_some _ ho))
    · exact (hs'.2 x hxs).trans (Heap.get?_update_self _ hx1 rfl)
theorem er_set_old {x t0 dx : Addr} {f : Str} {v : Value} {m0 : Str → Option Value} {nl : List Str} {Q : Unit → Shared → Prop} (SF : StoreFacts B bmB "object.__setattr__" "object") (X : K.In hp) (hx : hp.get? x = some (excObj C t0 (some dx) .none))
    (hns : hp.Ns1 dx m0) (hw : Within m0 nl) (hz : nl.length ≤ 1000)
    (hs : findIn K (.ref C) "__setattr__" = some (some (.builtin "object.__setattr__"))) (ho : excOver K C bmB = true) (hh : hasDictIn K C = true) (ha : findIn K (.ref C) f = some none)
    (hq : ∀ h' tk', (∀ b o, b ≠ dx → hp.get? b = some o → h'.get? b = some o) → h'.Ns1 dx (fun y => if y = f then some v else m0 y) → Q () ⟨h', g, d, tk', os⟩) :
    wpAny (model prog w) A (setAttr (.ref x) f v) Q E ⟨hp, g, d, t, os⟩ := by
  obtain ⟨cd, hc, hd'⟩ := any_some hh
  obtain ⟨oD, esD, epD, hoD, hdD, _⟩ := hns.count hw
  refine set_plain (od := some oD) X ⟨hx, rfl, rfl, hoD⟩ hs (osa_openX (od := some oD) (r := none) SF X ⟨hx, rfl, rfl, hoD⟩ ho (taker_none ha) fun b => ?_)
  refine wpAny_bind (wpAny_pure (wpAny_bind (wpAny_bind (wpAny_loadPart hx (wpAny_bind ((looks_clsIn X hc).here ?_))))))
  rw [hd']
  refine wpAny_pure (a := some dx) ?_
  show wpAny _ _ (Builtin.ObjectAttr.storeInDict dx (.str f _) f v) _ _ ⟨hp, g, d, _, os⟩
  exact OEX.store_in_old hns hw hz fun h' tk' hn hs' => hq h' tk' (fun b o hb ho => (hs'.2 b hb).trans ho) hn
end
end Er
end PySem
namespace PySem
namespace Er
open PySem.W PySem.Calls PyProof.Rows PySem.HandSPX
def iScope (fs : List Str) : Scope := { kind := .function, names := (("self" : Str), NameKind.local) :: fs.map (fun f => (f, NameKind.local)) ++ [(("__class__" : Str), NameKind.free), (("super" : Str), NameKind.globalImplicit)], isGenerator := false, isCoroutine := false, more := [] }
def iSet (f : Str) (q1 q2 q3 q4 : Pos) : Stmt := .Assign [.Attribute (.Name "self" q1) f q2] (.Name f q3) q4
def SupEv (fs : List Str) (a1 a2 a3 a4 a5 : Pos) (t : Str) : Prop := ∀ (q : Str) (L a : Addr) (cd : Value) (cc : Addr), ∃ pl : Sem Bool, eval (.Call (.Attribute (.Call (.Name "super" a1) [] [] a2) "__init__" a3) [.Constant (.str t) 0 a4] [] a5) (ksEnv q (iScope fs) L a cd cc) = (do
      let ov ← attributeBase (.Call (.Name "super" a1) [] [] a2) "__init__" (ksEnv q (iScope fs) L a cd cc) (eval (.Call (.Name "super" a1) [] [] a2) (ksEnv q (iScope fs) L a cd cc))
      standAt a3.atName
      let (f, first) ← holding [ov] (getMethod ov "__init__" pl)
      callWith a5 f first (backTo a5 (starEach [.Constant (.str t) 0 a4] (ksEnv q (iScope fs) L a cd cc))) [])
def SetEv (fs : List Str) (f : Str) (q1 q2 q3 q4 : Pos) : Prop := ∀ (q : Str) (L a : Addr) (cd : Value) (cc : Addr), swapsWith (.Name f q3) (some (.Attribute (.Name "self" q1) f q2)) q4.line (ksEnv q (iScope fs) L a cd cc) = pure false
structure IBind (fs : List Str) (params : Arguments) : Prop where
  bnd : ∀ (qual : Str) (body : List Stmt) (doc pm : Value) (an : Option Addr) (cdv ct : Value) (cc x : Addr) (vs : List Value), vs.length = fs.length → bindArgs (ksFn "__init__" qual params body (iScope fs) .none .none doc pm an cdv ct cc) ⟨.ref x :: vs, []⟩ = pure ((("self" : Str), Value.ref x) :: fs.zip vs)
  hd : ∃ ar, (params.posonlyargs ++ params.args).head? = some ar ∧ ar.arg = "self"
  sup : (iScope fs).names.lookup ("super" : Str) = some .globalImplicit
  cls : (iScope fs).names.lookup ("__class__" : Str) = some .free
  self : (iScope fs).names.lookup ("self" : Str) = some .local
  loc : ∀ f ∈ fs, (iScope fs).names.lookup f = some .local ∧ (f == ("__debug__" : Str)) = false
  ms : ∀ (x : Addr) (vs : List Value), vs.length = fs.length → ((("self" : Str), Value.ref x) :: fs.zip vs).reverse.lookup ("self" : Str) = some (.ref x)
  mf : ∀ (x : Addr) (vs : List Value) (i : Nat) (f : Str) (v : Value), vs.length = fs.length → fs[i]? = some f → vs[i]? = some v → ((("self" : Str), Value.ref x) :: fs.zip vs).reverse.lookup f = some v
  ne : fs.Nodup
inductive IForm : List Str → Arguments → List Stmt → Scope → Prop
  | no (params : Arguments) (a1 a2 a3 a4 a5 a6 : Pos) (t : Str) (he : SupEv [] a1 a2 a3 a4 a5 t) (b : IBind [] params) : IForm [] params [supCall a1 a2 a3 a4 a5 a6 t] (iScope [])
  | one (params : Arguments) (a1 a2 a3 a4 a5 a6 q1 q2 q3 q4 : Pos) (t f : Str) (he : SupEv [f] a1 a2 a3 a4 a5 t) (s1 : SetEv [f] f q1 q2 q3 q4) (b : IBind [f] params) :
      IForm [f] params [supCall a1 a2 a3 a4 a5 a6 t, iSet f q1 q2 q3 q4] (iScope [f])
  | two (params : Arguments) (a1 a2 a3 a4 a5 a6 q1 q2 q3 q4 r1 r2 r3 r4 : Pos) (t f k : Str) (he : SupEv [f, k] a1 a2 a3 a4 a5 t) (s1 : SetEv [f, k] f q1 q2 q3 q4) (s2 : SetEv [f, k] k r1 r2 r3 r4) (b : IBind [f, k] params) :
      IForm [f, k] params [supCall a1 a2 a3 a4 a5 a6 t, iSet f q1 q2 q3 q4, iSet k r1 r2 r3 r4] (iScope [f, k])
structure ErTxt (prog : Program) (K : Frag) (qual : Str) (fs : List Str) (C fI : Addr) (B newId initId : String) (bmB : List Value) : Prop where
  fn : ∃ oc od, ∃ (params : Arguments) (body : List Stmt) (scope : Scope) (doc pm : Value) (an : Option Addr) (cda cc : Addr) (ct : Value) (osl : Array (Option Value)),
    K.lookup fI = some ⟨oc, od, .func (ksFn "__init__" qual params body scope .none .none doc pm an (.ref cda) ct cc), osl⟩ ∧ codeIn K (.ref cda) qual = true ∧ IForm fs params body scope ∧ SupTxt prog K C cda cc B newId initId bmB
  sa : findIn K (.ref C) "__setattr__" = some (some (.builtin "object.__setattr__"))
  ov : excOver K C bmB = true
  hd : hasDictIn K C = true
  no : ∀ f ∈ fs, findIn K (.ref C) f = some none
  init : findIn K (.ref C) "__init__" = some (some (.ref fI))
  ty : typeIn K (.ref fI) = some (.type "function")
structure IEnd (h h' : Heap) (x C t1 : Addr) (dd : Option Addr) (fvs : List (Str × Value)) : Prop where
  keep : ∀ b o, b ≠ x → h.get? b = some o → h'.get? b = some o
  obj : h'.get? x = some (excObj C t1 dd .none)
  dict : (dd = none ∧ fvs = []) ∨ fvs ≠ [] ∧ ∃ dx, dd = some dx ∧ h.objs.size ≤ dx ∧ dx ≠ x ∧ ∃ mA, h'.Ns1 dx mA ∧ ∀ y, mA y = fvs.lookup y
section
variable {prog : Program} {w : World} {A : Around} {E : Value → Shared → Prop} {R : Result → Shared → Prop} {K : Frag} {C fI : Addr} {qual : Str} {B newId initId : String} {bmB : List Value} {hp : Heap} {g : Array GenState} {d : Drawn} {t : Nat} {os : OsState}
theorem no_cell (fs : List Str) : ∀ x ∈ (iScope fs).names, x.2 ≠ NameKind.cell := by
  intro y hy
  have hy' : y ∈ (("self" : Str), NameKind.local) :: (fs.map (fun f => (f, NameKind.local)) ++ [(("__class__" : Str), NameKind.free), (("super" : Str), NameKind.globalImplicit)]) := hy
  simp only [List.mem_cons, List.mem_append, List.mem_map, List.not_mem_nil, or_false] at hy'
  rcases hy' with rfl | ⟨f, _, rfl⟩ | rfl | rfl <;> exact fun z => by cases z
theorem hide_in {h : Heap} {x : Addr} (X : K.In h) (hx : K.lookup x = none) : K.In (hideAll h [x]) := fun a o e => hideAll_get _ (X a o e) (by
  intro z
  have z' : a = x := by simpa using z
  rw [z', hx] at e
  cases e)
theorem hide_ns {h : Heap} {x L : Addr} {m : Str → Option Value} (n : h.Ns L m) (hx : L ≠ x) : (hideAll h [x]).Ns L m := by
  obtain ⟨o, es, ep, e, r⟩ := n
  exact ⟨o, es, ep, hideAll_get _ e (by simpa using hx), r⟩
theorem er_store1 {f : Str} {q1 q2 q3 q4 : Pos} {env : Env} {L x t0 : Addr} {v : Value} {m : Str → Option Value} {rest : List Stmt} {Q : Flow → Shared → Prop} (SF : StoreFacts B bmB "object.__setattr__" "object") (X : K.In hp) (hx : hp.get? x = some (excObj C t0 none .none))
    (hs : findIn K (.ref C) "__setattr__" = some (some (.builtin "object.__setattr__"))) (ho : excOver K C bmB = true) (hh : hasDictIn K C = true) (ha : findIn K (.ref C) f = some none)
    (hk : env.scope.kind = .function) (kf : env.kindOf f = some .local) (ks : env.kindOf "self" = some .local) (hn : hp.Ns env.locals m) (hf : m f = some v) (hself : m "self" = some (.ref x)) (h4 : (f == ("__debug__" : Str)) = false)
    (sw : swapsWith (.Name f q3) (some (.Attribute (.Name "self" q1) f q2)) q4.line env = pure false)
    (hq : ∀ h' tk' dx, (∀ b o, b ≠ x → hp.get? b = some o → h'.get? b = some o) → hp.objs.size ≤ dx → dx ≠ x → h'.get? x = some (excObj C t0 (some dx) .none) →
      h'.Ns1 dx (fun y => if y = f then some v else none) → wpAny (model prog w) A (execs rest env) Q E ⟨h', g, d, tk', os⟩) : wpAny (model prog w) A (execs (iSet f q1 q2 q3 q4 :: rest) env) Q E ⟨hp, g, d, t, os⟩ := by
  refine wpAny_execs_cons (plainObj_wpAny_Assign_Attribute ?_ sw)
  refine wpAny_Name (wpAny_loadName_local hk kf hn hf ?_) h4
  refine wpAny_Name (wpAny_loadName_local hk ks hn hself ?_) (by decide)
  exact er_set_new SF X hx hs ho hh ha hq
theorem er_store2 {f : Str} {q1 q2 q3 q4 : Pos} {env : Env} {L x t0 dx : Addr} {v : Value} {m m0 : Str → Option Value} {nl : List Str} {rest : List Stmt} {Q : Flow → Shared → Prop} (SF : StoreFacts B bmB "object.__setattr__" "object") (X : K.In hp) (hx : hp.get? x = some (excObj C t0 (some dx) .none))
    (hns : hp.Ns1 dx m0) (hw : Within m0 nl) (hz : nl.length ≤ 1000)
    (hs : findIn K (.ref C) "__setattr__" = some (some (.builtin "object.__setattr__"))) (ho : excOver K C bmB = true) (hh : hasDictIn K C = true) (ha : findIn K (.ref C) f = some none)
    (hk : env.scope.kind = .function) (kf : env.kindOf f = some .local) (ks : env.kindOf "self" = some .local) (hn : hp.Ns env.locals m) (hf : m f = some v) (hself : m "self" = some (.ref x)) (h4 : (f == ("__debug__" : Str)) = false)
    (sw : swapsWith (.Name f q3) (some (.Attribute (.Name "self" q1) f q2)) q4.line env = pure false)
    (hq : ∀ h' tk', (∀ b o, b ≠ dx → hp.get? b = some o → h'.get? b = some o) → h'.Ns1 dx (fun y => if y = f then some v else m0 y) → wpAny (model prog w) A (execs rest env) Q E ⟨h', g, d, tk', os⟩) :
    wpAny (model prog w) A (execs (iSet f q1 q2 q3 q4 :: rest) env) Q E ⟨hp, g, d, t, os⟩ := by
  refine wpAny_execs_cons (plainObj_wpAny_Assign_Attribute ?_ sw)
  refine wpAny_Name (wpAny_loadName_local hk kf hn hf ?_) h4
  refine wpAny_Name (wpAny_loadName_local hk ks hn hself ?_) (by decide)
  exact er_set_old SF X hx hns hw hz hs ho hh ha hq
theorem er_init {fs : List Str} {x t0 : Addr} {vs : List Value} {mg mb : Str → Option Value} (T : ErTxt prog K qual fs C fI B newId initId bmB) (KF : KxsFacts B initId) (FB : ExcBaseFacts B newId initId bmB) (SF : StoreFacts B bmB "object.__setattr__" "object")
    (X : K.In hp) (hlim : hp.NoLimit) (hg : hp.Ns mainGlobals mg) (hb : hp.Ns builtinsNs mb) (hmb : mb "super" = bootBuiltins "super") (hx : hp.get? x = some (excObj C t0 none .none)) (hnx : K.lookup x = none) (hxg : mainGlobals ≠ x) (hxb : builtinsNs ≠ x) (hroom : A.depth < recursionLimit) (hl : vs.length = fs.length)
    (hq : ∀ h' tk' t1 dd, IEnd hp h' x C t1 dd (fs.zip vs) → R (.ok (.ret .none)) ⟨h', g, d, tk', os⟩) :
    codeAny (model prog w) A (.call (.ref fI) ⟨.ref x :: vs, []⟩) R ⟨hp, g, d, t, os⟩ := by
  obtain ⟨oc, od, params, body, scope, doc, pm, an, cda, cc, ct, osl, ho, hcd, form, S⟩ := T.fn
  have hNo := T.no
  have hsa := T.sa
  have hov := T.ov
  have hhd := T.hd
  have hGl : ∀ (h1 : Heap) (m : Str → Option Value), h1.Ns hp.objs.size m → (∀ b o, hp.get? b = some o → h1.get? b = some o) → Fr (hideAll hp [x]) hp.objs.size h1 m := fun h1 m hns k => ⟨hns, fun b o e => k b o (of_hideAll _ e), Nat.le_of_eq (hideAll_size _ _)⟩
  have hNw : ∀ (h1 : Heap), (∀ b o, hp.get? b = some o → h1.get? b = some o) → News (hideAll hp [x]) hp.objs.size h1 [(x, excObj C t0 none .none)] := fun h1 k p hp' => by
    rcases List.mem_singleton.mp hp' with rfl
    exact ⟨k _ _ hx, Nat.ne_of_lt (Heap.lt_size hx), hideAll_none _ (by simp)⟩
  have nsOf : ∀ {m : Str → Option Value} {h1 h2 : Heap} {y : Addr}, h1.Ns hp.objs.size m → (∀ b o, b ≠ y → h1.get? b = some o → h2.get? b = some o) → hp.objs.size ≠ y → h2.Ns hp.objs.size m := fun {m h1 h2 y} n k ny => by
    obtain ⟨o, es, ep, e, r⟩ := n
    exact ⟨o, es, ep, k _ _ ny e, r⟩
  have nx : hp.objs.size ≠ x := Nat.ne_of_gt (Heap.lt_size hx)
  have knx : ∀ {h1 h2 : Heap}, K.In h1 → (∀ b o, b ≠ x → h1.get? b = some o → h2.get? b = some o) → K.In h2 := fun {h1 h2} X1 k a o e => k a o (fun z => by rw [z, hnx] at e; cases e) (X1 a o e)
  have enter : ∀ (body : List Stmt) (b : IBind fs params) (ho' : K.lookup fI = some ⟨oc, od, .func (ksFn "__init__" qual params body (iScope fs) .none .none doc pm an (.ref cda) ct cc), osl⟩),
      (∀ h1 tk1, h1.Ns hp.objs.size (fun y => ((("self" : Str), Value.ref x) :: fs.zip vs).reverse.lookup y) → (∀ b o, hp.get? b = some o → h1.get? b = some o) →
        _root_.PySem.wpAt (model prog w) (A.deeper (ksEnv qual (iScope fs) hp.objs.size fI (.ref cda) cc)) (.func body (ksEnv qual (iScope fs) hp.objs.size fI (.ref cda) cc)) (execs body (ksEnv qual (iScope fs) hp.objs.size fI (.ref cda) cc))
          (fun fl s' => R (.ok (.ret (match fl with | .ret v => v | _ => .none))) s') (fun e s' => wpAny (model prog w) (A.deeper (ksEnv qual (iScope fs) hp.objs.size fI (.ref cda) cc)) (leaving (ksEnv qual (iScope fs) hp.objs.size fI (.ref cda) cc) e) (fun _ s'' => R (.error e) s'') (fun e' s'' => R (.error e') s'') s') ⟨h1, g, d, tk1, os⟩) →
      codeAny (model prog w) A (.call (.ref fI) ⟨.ref x :: vs, []⟩) R ⟨hp, g, d, t, os⟩ := fun body b ho' z => by
    refine ks_codeAny_call_defAt (fd := ksFn "__init__" qual params body (iScope fs) .none .none doc pm an (.ref cda) ct cc) (body := body) (binds := (("self" : Str), Value.ref x) :: fs.zip vs) hroom (X _ _ ho') rfl hlim (codeRec_of X hcd) rfl (BindsTo.of_eq (b.bnd _ _ _ _ _ _ _ _ _ _ hl)) (no_cell fs) (fun y hy => ?_) (fun h1 hns k => z h1 _ hns k) rfl rfl rfl
    rcases List.mem_cons.mp hy with rfl | hy
    · exact b.self
    · exact (b.loc y.1 (List.of_mem_zip hy).1).1
  cases form with
  | no params a1 a2 a3 a4 a5 a6 t he b =>
    obtain ⟨pl, he⟩ := he qual hp.objs.size fI (.ref cda) cc
    obtain ⟨ar, har, hae⟩ := b.hd
    refine enter _ b ho fun h1 tk1 hns k => ?_
    refine er_super (q := qual) (scope := iScope []) (rest := []) S KF FB (hGl _ _ hns k) (hide_in X hnx) (hNw _ k) (hide_ns hg hxg) (hide_ns hb hxb) hmb ho har (by rw [hae]; exact b.ms x vs hl) b.sup he b.cls (by rw [hae]; exact b.self) rfl (fun h' tk' t' F' hx' => ?_)
    refine wpAny_execs_nil (hq h' tk' t' none ⟨fun b o hb e => F'.keep b o (hideAll_get _ e (by simpa using hb)), hx', .inl ⟨rfl, by simp⟩⟩)
  | one params a1 a2 a3 a4 a5 a6 q1 q2 q3 q4 t f he s1 b =>
    obtain ⟨pl, he⟩ := he qual hp.objs.size fI (.ref cda) cc
    obtain ⟨ar, har, hae⟩ := b.hd
    obtain ⟨v, rfl⟩ : ∃ v, vs = [v] := by
      match vs, hl with
      | [v], _ => exact ⟨v, rfl⟩
    refine enter _ b ho fun h1 tk1 hns k => ?_
    refine er_super (q := qual) (scope := iScope [f]) (rest := [iSet f q1 q2 q3 q4]) S KF FB (hGl _ _ hns k) (hide_in X hnx) (hNw _ k) (hide_ns hg hxg) (hide_ns hb hxb) hmb ho har (by rw [hae]; exact b.ms x [v] hl) b.sup he b.cls (by rw [hae]; exact b.self) rfl (fun h' tk' t' F' hx' => ?_)
    have k' : ∀ b o, b ≠ x → hp.get? b = some o → h'.get? b = some o := fun b o hb e => F'.keep b o (hideAll_get _ e (by simpa using hb))
    refine er_store1 (L := hp.objs.size) (v := v) SF (knx X k') hx' hsa hov hhd (hNo f (by simp)) rfl (b.loc f (by simp)).1 b.self F'.ns (b.mf x [v] 0 f v hl rfl rfl) (b.ms x [v] hl) (b.loc f (by simp)).2 (s1 _ _ _ _ _) (fun h2 tk2 dx k2 big ne hx2 hn2 => ?_)
    refine wpAny_execs_nil (hq h2 tk2 t' (some dx) ⟨fun b o hb e => k2 b o hb (k' b o hb e), hx2, .inr ⟨by simp, dx, rfl, Nat.le_trans (Nat.le_of_lt F'.ns.lt) big, ne, _, hn2, fun y => ?_⟩⟩)
    show (if y = f then some v else none) = ([(f, v)] : List (Str × Value)).lookup y
    by_cases e : y = f
    · subst e
      simp [List.lookup]
    · rw [if_neg e]
      simp [List.lookup, (by simpa using e : (y == f) = false)]
  | two params a1 a2 a3 a4 a5 a6 q1 q2 q3 q4 r1 r2 r3 r4 t f kk he s1 s2 b =>
    obtain ⟨pl, he⟩ := he qual hp.objs.size fI (.ref cda) cc
    obtain ⟨ar, har, hae⟩ := b.hd
    obtain ⟨v, u, rfl⟩ : ∃ v u, vs = [v, u] := by
      match vs, hl with
      | [v, u], _ => exact ⟨v, u, rfl⟩
    refine enter _ b ho fun h1 tk1 hns k => ?_
    refine er_super (q := qual) (scope := iScope [f, kk]) (rest := [iSet f q1 q2 q3 q4, iSet kk r1 r2 r3 r4]) S KF FB (hGl _ _ hns k) (hide_in X hnx) (hNw _ k) (hide_ns hg hxg) (hide_ns hb hxb) hmb ho har (by rw [hae]; exact b.ms x [v, u] hl) b.sup he b.cls (by rw [hae]; exact b.self) rfl (fun h' tk' t' F' hx' => ?_)
    have k' : ∀ b o, b ≠ x → hp.get? b = some o → h'.get? b = some o := fun b o hb e => F'.keep b o (hideAll_get _ e (by simpa using hb))
    have hX' := knx X k'
    refine er_store1 (L := hp.objs.size) (v := v) SF hX' hx' hsa hov hhd (hNo f (by simp)) rfl (b.loc f (by simp)).1 b.self F'.ns (b.mf x [v, u] 0 f v hl rfl rfl) (b.ms x [v, u] hl) (b.loc f (by simp)).2 (s1 _ _ _ _ _) (fun h2 tk2 dx k2 big ne hx2 hn2 => ?_)
    have hX2 := knx hX' k2
    have hF2 := nsOf F'.ns k2 nx
    have dL : hp.objs.size ≠ dx := Nat.ne_of_lt (Nat.lt_of_lt_of_le F'.ns.lt big)
    refine er_store2 (L := hp.objs.size) (v := u) (nl := [f]) SF hX2 hx2 hn2 (fun y hy => ?_) (by simp) hsa hov hhd (hNo kk (by simp)) rfl (b.loc kk (by simp)).1 b.self hF2 (b.mf x [v, u] 1 kk u hl rfl rfl) (b.ms x [v, u] hl) (b.loc kk (by simp)).2 (s2 _ _ _ _ _) (fun h3 tk3 k3 hn3 => ?_)
    · by_cases e : y = f
      · simp [e]
      · exact absurd (if_neg e) hy
    refine wpAny_execs_nil (hq h3 tk3 t' (some dx) ⟨fun b o hb e => k3 b o (fun z => ?_) (k2 b o hb (k' b o hb e)), k3 _ _ ne.symm hx2, .inr ⟨by simp, dx, rfl, Nat.le_trans (Nat.le_of_lt F'.ns.lt) big, ne, _, hn3, fun y => ?_⟩⟩)
    · subst z
      exact absurd (Nat.lt_of_lt_of_le (Heap.lt_size (k' _ _ hb e)) big) (Nat.lt_irrefl _)
    show (if y = kk then some u else if y = f then some v else none) = ([(f, v), (kk, u)] : List (Str × Value)).lookup y
    have nfk : f ≠ kk := by
      have := b.ne
      simpa using this
    by_cases e : y = f
    · subst e
      simp [List.lookup, nfk]
    · have e' : (y == f) = false := by simpa using e
      by_cases e2 : y = kk
      · subst e2
        simp [List.lookup, e']
      · rw [if_neg e2, if_neg e]
        simp [List.lookup, e', (by simpa using e2 : (y == kk) = false)]
end
end Er
end PySem
namespace PySem
namespace Er
open PySem.W PySem.Calls PyProof.Rows PySem.HandSPX
structure EMade (h h' : Heap) (e C t1 : Addr) (dd : Option Addr) (fvs : List (Str × Value)) : Prop where
  keep : ∀ b o, h.get? b = some o → h'.get? b = some o
  new : h.objs.size ≤ e
  obj : h'.get? e = some (excObj C t1 dd .none)
  dict : (dd = none ∧ fvs = []) ∨ fvs ≠ [] ∧ ∃ dx, dd = some dx ∧ h.objs.size ≤ dx ∧ dx ≠ e ∧ ∃ mA, h'.Ns1 dx mA ∧ ∀ y, mA y = fvs.lookup y
section
variable {prog : Program} {w : World} {A : Around} {E : Value → Shared → Prop} {R : Result → Shared → Prop} {K : Frag} {C fI : Addr} {qual : Str} {B newId initId : String} {bmB : List Value} {hp : Heap} {g : Array GenState} {d : Drawn} {t : Nat} {os : OsState}
theorem er_made {fs : List Str} {vs : List Value} {mg mb : Str → Option Value} (T : ErTxt prog K qual fs C fI B newId initId bmB) (KF : KxsFacts B initId) (FB : ExcBaseFacts B newId initId bmB) (SF : StoreFacts B bmB "object.__setattr__" "object") (hex : excInitIn K C bmB newId = true)
    (X : K.In hp) (hlim : hp.NoLimit) (hg : hp.Ns mainGlobals mg) (hb : hp.Ns builtinsNs mb) (hmb : mb "super" = bootBuiltins "super") (hroom : A.depth + 1 < recursionLimit) (hl : vs.length = fs.length) (hz : vs.length ≤ sizeLine)
    (hq : ∀ h' tk' e t1 dd, EMade hp h' e C t1 dd (fs.zip vs) → R (.ok (.ret (.ref e))) ⟨h', g, d, tk', os⟩) :
    codeAny (model prog w) A (.call (.ref C) ⟨vs, []⟩) R ⟨hp, g, d, t, os⟩ := by
  obtain ⟨nm, N', qn, bs, bm, hdct, sn, sub, ab, col, dd, k0, k1, k2, k3, k5, hC, hT⟩ := excInit_of X hex
  have k : ∀ b o, hp.get? b = some o → ((hp.push (kdv_tup vs)).push (excO C hp.objs.size)).get? b = some o := fun b o e => Heap.get?_push_of_some _ (Heap.get?_push_of_some _ e)
  have hget : ((hp.push (kdv_tup vs)).push (excO C hp.objs.size)).get? (hp.objs.size + 1) = some (excO C hp.objs.size) := by heap_get
  have big : ∀ {b : Addr} {o : Obj}, hp.get? b = some o → b ≠ hp.objs.size + 1 := fun {b o} e => Nat.ne_of_lt (Nat.lt_succ_of_lt (Heap.lt_size e))
  have hnx : K.lookup (hp.objs.size + 1) = none := by
    cases e : K.lookup (hp.objs.size + 1) with
    | none => rfl
    | some o => exact absurd rfl (big (X _ _ e))
  have gne : mainGlobals ≠ hp.objs.size + 1 := by
    obtain ⟨o, _, _, e, _⟩ := hg
    exact big e
  have bne : builtinsNs ≠ hp.objs.size + 1 := by
    obtain ⟨o, _, _, e, _⟩ := hb
    exact big e
  refine call_own FB hT hC (looks_findIn X T.init) (fun self => bind_fn X self T.ty) hz ?_
  refine er_init (hp := (hp.push (kdv_tup vs)).push (excO C hp.objs.size)) (x := hp.objs.size + 1) (t0 := hp.objs.size) T KF FB SF (X.keeps k) (hlim.keeps k) (hg.keeps k) (hb.keeps k) hmb hget hnx gne bne ?_ hl fun h' tk' t1 dd ⟨k', hx, hd⟩ => ?_
  · show A.depth + 1 < recursionLimit
    exact hroom
  · have old : ∀ b o, hp.get? b = some o → h'.get? b = some o := fun b o e => k' b o (big e) (k b o e)
    refine ⟨rfl, hq h' tk' (hp.objs.size + 1) t1 dd ⟨old, Nat.le_succ _, hx, ?_⟩⟩
    rcases hd with hd | ⟨e0, dx, e1, e2, e3⟩
    · exact .inl hd
    · refine .inr ⟨e0, dx, e1, ?_, e3⟩
      have z : hp.objs.size + 1 + 1 ≤ dx := by
        have q := e2
        rw [Heap.size_push, Heap.size_push] at q
        exact q
      exact Nat.le_trans (Nat.le_trans (Nat.le_succ _) (Nat.le_succ _)) z
end
end Er
end PySem
namespace L2
open PySem PySem.Spec PyProof.Rows
theorem relO_zip : ∀ {fs : List Str} {vs : List V} {us : List Value}, Vals vs us → ∀ f, RelO ((fs.zip vs).lookup f) ((fs.zip us).lookup f)
  | [], _, _, _, f => by simp [RelO]
  | _ :: _, _, _, .nil, f => by simp [RelO]
  | a :: fs, _, _, .cons r t, f => by
    simp only [List.zip_cons_cons, List.lookup_cons]
    cases e : f == a with
    | true => exact r
    | false => exact relO_zip t f
structure ErC (prog : Program) (K : PySem.W.Frag) (qual : Str) (fs : List Str) (C : Addr) : Prop where
  ex : ∃ fI B newId initId bmB, PySem.Er.ErTxt prog K qual fs C fI B newId initId bmB ∧ PySem.W.KxsFacts B initId ∧ ExcBaseFacts B newId initId bmB ∧ StoreFacts B bmB "object.__setattr__" "object" ∧ PySem.W.excInitIn K C bmB newId = true
  exC : PySem.W.subIn K (.ref C) (.type "BaseException") = some true
  tyC : PySem.W.typeIn K (.ref C) = some (.type "type")
  kC : PySem.W.keepIn K (.ref C) = true
section
variable {X : Cx} {C : Addr} {qual : Str} {fs : List Str}
def tMkEr (C : Addr) (fs : List Str) (ta : TA) : St → Hp → XK → Prop := fun σ H Q => ta σ H fun vs H1 => vs.length = fs.length ∧ vs.length ≤ 1000 ∧ (fs = [] → Q (.ref C) none H1) ∧ (fs ≠ [] → ∀ d, H1 d = none → Q (.ref C) (some d) (upd H1 d (.xd (fs.zip vs))))
theorem er_run {pins : List (Addr × Obj)} {σ : St} {H1 : Hp} {s1 : Shared} {vs : List V} {us : List Value} {Q : XK} {k : Nat} (T : ErC X.prog X.K qual fs C) (hr : Room k X.A) (I1 : Inv X pins σ H1 s1) (r1 : Vals vs us) (hl : vs.length = fs.length) (hz : vs.length ≤ 1000)
    (q0 : fs = [] → Q (.ref C) none H1) (q1 : fs ≠ [] → ∀ d, H1 d = none → Q (.ref C) (some d) (upd H1 d (.xd (fs.zip vs)))) : wpAny (model X.prog X.w) X.A (call (.ref C) us) (MkP X pins σ Q) X.xe s1 := by
  obtain ⟨fI, B, newId, initId, bmB, T1, KF, FB, SF, hex⟩ := T.ex
  have hlim := I1.nolimit
  have hK := I1.kIn
  have hm := I1.mod
  obtain ⟨mb, hb, hbt⟩ := hm.blt
  have hg := hm.glob.keeps I1.bk
  have hb' := hb.keeps I1.bk
  have lu : us.length = fs.length := r1.length.symm.trans hl
  have zu : us.length ≤ sizeLine := by
    rw [← r1.length, sizeLine_eq]
    omega
  obtain ⟨hp, g, dr, tk, os⟩ := s1
  refine wpAny_call (PySem.Er.er_made T1 KF FB SF hex hK hlim hg hb' (hbt "super" (by decide)) (by have := hr.dp; omega) lu zu fun h' tk' e t1 dd M => ?_)
  show MkP X pins σ Q (.ref e) ⟨h', g, dr, tk', os⟩
  obtain ⟨G', g1, g2⟩ := restrict h' fun b => decide (b ≠ e)
  have gk : ∀ b, b ≠ e → G'.get? b = h'.get? b := fun b hb => g1 b (decide_eq_true hb)
  have ge : G'.get? e = none := g2 e (by simp)
  have old : ∀ b o, hp.get? b = some o → G'.get? b = some o := fun b o q => (gk b (Nat.ne_of_lt (Nat.lt_of_lt_of_le (Heap.lt_size q) M.new))).trans (M.keep b o q)
  have back : ∀ b o, G'.get? b = some o → h'.get? b = some o := fun b o q => by
    by_cases hb : b = e
    · rw [hb, ge] at q
      cases q
    · exact (gk b hb).symm.trans q
  rcases M.dict with ⟨ed, ef⟩ | ⟨e0, dx, ed, big, ne, mA, hns, hmA⟩
  · subst ed
    have f0 : fs = [] := by
      cases fs with
      | nil => rfl
      | cons a l =>
        cases us with
        | nil => cases lu
        | cons u us => cases ef
    have J : Inv X pins σ H1 ⟨G', g, dr, tk', os⟩ := I1.kept (t' := tk') old
    exact ⟨e, _, _, ⟨G', g, dr, tk', os⟩, _, .ref C, none, rfl, J, back, ge, M.obj, ⟨rfl, rfl⟩, rfl, rfl, I1.hok.fresh M.new, rfl, I1.bare, raises_own T.exC T.tyC, q0 f0⟩
  · subst ed
    have f0 : fs ≠ [] := fun z => e0 (by rw [z]; rfl)
    have ob : ObjOk X.prog X.w (upd H1 dx (.xd (fs.zip vs))) G' dx (.xd (fs.zip vs)) := ⟨mA, hns.at (fun o q => (gk dx ne).trans q), fun f => by rw [hmA f]; exact relO_zip r1 f⟩
    have J : Inv X pins σ (upd H1 dx (.xd (fs.zip vs))) ⟨G', g, dr, tk', os⟩ := I1.laid (t' := tk') old big ob
    refine ⟨e, _, _, ⟨G', g, dr, tk', os⟩, _, .ref C, some dx, rfl, J, back, ge, M.obj, ⟨rfl, rfl⟩, rfl, rfl, ?_, rfl, I1.bare, raises_own T.exC T.tyC, q1 f0 dx (I1.hok.fresh big)⟩
    rw [upd_ne (Ne.symm ne)]
    exact I1.hok.fresh M.new
end
end L2
namespace L2
open PySem PySem.Spec PyProof.Rows
section
variable {X : Cx} {C : Addr} {qual : Str} {fs : List Str} {x : Str} {p pos pos2 : Pos} {e : Expr} {es : List Expr} {ta : TA} {k : Nat} {W : WX}
theorem pmk_er (T : ErC X.prog X.K qual fs C) (hr : Room k X.A) (hm : X.mg x = some (.ref C)) (ha : PA X (e :: es) ta) (hg : Gl X x := by rfl) (hdb : (x == ("__debug__" : Str)) = false := by decide)
    (he : starEach (e :: es) X.env = (false, eval e X.env) :: starEach es X.env := by rfl) (hpl : (backTo pos (starEach es X.env)).any (·.1) = false := by rfl) : PMk X (.Call (.Name x p) (e :: es) [] pos) (tMkEr C fs ta) := by
  intro pins s σ H Q I h
  refine wpAny_Call_Name_kw (ld_glob I hg hm ?_ hdb)
  refine PySem.W.callWith_K (h₀ := X.base) I.ok.mod.kin T.kC (thn (ha.run pos pins s σ H _ I h) fun us s1 hh => ?_) he hpl
  obtain ⟨vs, H1, I1, r1, hl, hz, q0, q1⟩ := hh
  exact ⟨I1.kIn, er_run T hr I1 r1 hl hz q0 q1⟩
def tRaiseEr (C : Addr) (fs : List Str) (W : WX) (ta : TA) : TS := fun _ σ H => tMkEr C fs ta σ H fun cls d H' => W cls d σ H'
theorem ps_raiseEr (hc : X.calm = true) (T : ErC X.prog X.K qual fs C) (hr : Room k X.A) (tk : Takes X W) (hm : X.mg x = some (.ref C)) (ha : PA X (e :: es) ta) (hg : Gl X x := by rfl) (hdb : (x == ("__debug__" : Str)) = false := by decide)
    (he : starEach (e :: es) X.env = (false, eval e X.env) :: starEach es X.env := by rfl) (hpl : (backTo pos (starEach es X.env)).any (·.1) = false := by rfl) :
    PS X (.Raise (some (.Call (.Name x p) (e :: es) [] pos)) none pos2) (tRaiseEr C fs W ta) := ps_raise hc tk (pmk_er T hr hm ha hg hdb he hpl)
end
end L2
namespace Wm
open PySem L2
def pk (c : Addr) (a r g m t : Int) : List (Key × V) := [(.inr "cells", .ref c), (.inr "at", .int a), (.inr "rest", .int r), (.inr "digits", .int g), (.inr "mix", .int m), (.inr "turn", .int t)]
theorem pk_get_cells (c : Addr) (a r g m t : Int) : valV (pk c a r g m t) (.inr "cells") = some (.ref c) := by rfl
theorem pk_get_at (c : Addr) (a r g m t : Int) : valV (pk c a r g m t) (.inr "at") = some (.int a) := by rfl
theorem pk_get_rest (c : Addr) (a r g m t : Int) : valV (pk c a r g m t) (.inr "rest") = some (.int r) := by rfl
theorem pk_get_digits (c : Addr) (a r g m t : Int) : valV (pk c a r g m t) (.inr "digits") = some (.int g) := by rfl
theorem pk_get_mix (c : Addr) (a r g m t : Int) : valV (pk c a r g m t) (.inr "mix") = some (.int m) := by rfl
theorem pk_get_turn (c : Addr) (a r g m t : Int) : valV (pk c a r g m t) (.inr "turn") = some (.int t) := by rfl
theorem pk_put_at (c : Addr) (a r g m t n : Int) : putK (pk c a r g m t) (.inr "at") (.int n) = pk c n r g m t := by rfl
theorem pk_put_rest (c : Addr) (a r g m t n : Int) : putK (pk c a r g m t) (.inr "rest") (.int n) = pk c a n g m t := by rfl
theorem pk_put_digits (c : Addr) (a r g m t n : Int) : putK (pk c a r g m t) (.inr "digits") (.int n) = pk c a r n m t := by rfl
theorem pk_put_mix (c : Addr) (a r g m t n : Int) : putK (pk c a r g m t) (.inr "mix") (.int n) = pk c a r g n t := by rfl
theorem pk_put_turn (c : Addr) (a r g m t n : Int) : putK (pk c a r g m t) (.inr "turn") (.int n) = pk c a r g m n := by rfl
structure PenAt (H : Hp) (p c : Addr) : Prop where
  ex : ∃ (ns : List Int) (a r g m t : Int), H p = some (.dK (pk c a r g m t)) ∧ H c = some (.lst (ns.map V.int)) ∧ 0 ≤ a ∧ 0 ≤ m ∧ m < 2147483648
structure PenStep (p c : Addr) (H H' : Hp) : Prop where
  pen : PenAt H' p c
  keep : ∀ b o, b ≠ p → H b = some o → H' b = some o
theorem PenStep.refl {p c : Addr} {H : Hp} (h : PenAt H p c) : PenStep p c H H := ⟨h, fun _ _ _ e => e⟩
theorem PenStep.trans {p c : Addr} {H H1 H2 : Hp} (a : PenStep p c H H1) (b : PenStep p c H1 H2) : PenStep p c H H2 := ⟨b.pen, fun c o n e => b.keep c o n (a.keep c o n e)⟩
theorem PenAt.same {p c : Addr} {H H' : Hp} (h : PenAt H p c) (s : Same H H') : PenAt H' p c := by
  obtain ⟨ns, a, r, g, m, t, h1, h2, h3⟩ := h.ex
  exact ⟨ns, a, r, g, m, t, s _ _ h1, s _ _ h2, h3⟩
theorem PenAt.step {p c : Addr} {H H' : Hp} (h : PenAt H p c) (s : Same H H') : PenStep p c H H' := ⟨h.same s, fun b o _ e => s b o e⟩
theorem PenStep.same {p c : Addr} {H H1 H2 : Hp} (a : PenStep p c H H1) (s : Same H1 H2) : PenStep p c H H2 := ⟨a.pen.same s, fun b o n e => s b o (a.keep b o n e)⟩
theorem PenAt.some_p {H : Hp} {p c : Addr} (h : PenAt H p c) : ∃ o, H p = some o := by
  obtain ⟨ns, a, r, g, m, t, h1, h2, h3⟩ := h.ex
  exact ⟨_, h1⟩
theorem PenAt.some_c {H : Hp} {p c : Addr} (h : PenAt H p c) : ∃ o, H c = some o := by
  obtain ⟨ns, a, r, g, m, t, h1, h2, h3⟩ := h.ex
  exact ⟨_, h2⟩
theorem PenAt.ne_new {H : Hp} {p c q : Addr} (h : PenAt H p c) (n : H q = none) : p ≠ q ∧ c ≠ q := by
  obtain ⟨o, e⟩ := h.some_p
  obtain ⟨u, e'⟩ := h.some_c
  exact ⟨ne_of_none e n, ne_of_none e' n⟩
theorem PenAt.put {H : Hp} {p c q : Addr} {o : HO} (h : PenAt H p c) (n : p ≠ q ∧ c ≠ q) : PenAt (upd H q o) p c := by
  obtain ⟨ns, a, r, g, m, t, h1, h2, h3⟩ := h.ex
  exact ⟨ns, a, r, g, m, t, by rw [upd_ne n.1]; exact h1, by rw [upd_ne n.2]; exact h2, h3⟩
theorem PenStep.put {p c q : Addr} {o : HO} {H H1 : Hp} (a : PenStep p c H H1) (h : PenAt H p c) (n : H q = none) : PenStep p c H (upd H1 q o) :=
  ⟨a.pen.put (h.ne_new n), fun b u nb e => by rw [upd_ne (ne_of_none e n)]; exact a.keep b u nb e⟩
theorem dg {H : Hp} {p : Addr} {kvs : List (Key × V)} {x : Str} {v : V} (h : H p = some (.dK kvs)) (e : valV kvs (.inr x) = some v) : DGet H p (.str x) (some v) := e ▸ DGet.k (k := .inr x) h
theorem dp {H : Hp} {p : Addr} {kvs kvs' : List (Key × V)} {x : Str} {v : V} (h : H p = some (.dK kvs)) (e : putK kvs (.inr x) v = kvs') (hl : kvs.length < sizeLine) : DPut H p (.str x) v (upd H p (.dK kvs')) := e ▸ DPut.k (k := .inr x) h hl
theorem dpu {H : Hp} {p : Addr} {kvs kvs' : List (Key × V)} {x : Str} {v : V} (e : putK kvs (.inr x) v = kvs') (hl : kvs.length < sizeLine) : DPut (upd H p (.dK kvs)) p (.str x) v (upd H p (.dK kvs')) := by
  have z := dp (H := upd H p (.dK kvs)) (x := x) (v := v) upd_same e hl
  rwa [upd_upd] at z
theorem same_new {H : Hp} {p : Addr} {o : HO} (h : H p = none) : Same H (upd H p o) := fun b u e => by rw [upd_ne (ne_of_none e h)]; exact e
def spTake : Sp := fun vs H Q _ => ∃ (p c : Addr) (b : Int), vs = [.ref p, .int b] ∧ PenAt H p c ∧ 0 < b ∧ b < 2 ^ 100 ∧ ∀ r H', 0 ≤ r → r < b → PenStep p c H H' → Q (.int r) H'
def spPen (K : PySem.W.Frag) : Sp := fun vs H Q _ => ∃ (a : Addr) (ns : List Int), vs = [.ref a] ∧ SqL K H a (ns.map V.int) ∧ ∀ p c H', PenAt H' p c → Same H H' → H p = none → Q (.ref p) H'
theorem r_take {H : Hp} {Q : VK} {E : XK} {p c : Addr} {b : Int} (h : PenAt H p c) (hb : 0 < b) (hb2 : b < 2 ^ 100) (k : ∀ r H', 0 ≤ r → r < b → PenStep p c H H' → Q (.int r) H') : spTake ([.ref p, .int b] ++ []) H Q E := ⟨p, c, b, rfl, h, hb, hb2, k⟩
theorem sl6 (c : Addr) (a r g m t : Int) : (pk c a r g m t).length < sizeLine := by
  rw [sizeLine_eq]
  exact (by decide : 6 < 16777216)
theorem ite_and {c : Bool} {A B : Prop} (h1 : c = true → A) (h2 : c = false → B) : if c = true then A else B := by
  cases c
  · exact iteF (h2 rfl)
  · exact iteT (h1 rfl)
end Wm
namespace Wm
open PySem L2
def rLen (K : PySem.W.Frag) : List V → Hp → VK → Prop := fun xs H Q => ∃ p ys, xs = [.ref p] ∧ (SqL K H p ys ∨ SqT K H p ys) ∧ Q (.int ys.length) H
def rLenS : List V → Hp → VK → Prop := fun xs H Q => ∃ z, xs = [.str z] ∧ z.length ≤ sizeLine ∧ Q (.int z.length) H
def rInt1 : List V → Hp → VK → Prop := fun xs H Q => (∃ i, xs = [.int i] ∧ Q (.int i) H) ∨ ∃ k, xs = [.bl k] ∧ Q (.int (if k then 1 else 0)) H
def rListOf (K : PySem.W.Frag) : List V → Hp → VK → Prop := fun xs H Q => ∃ p ys, xs = [.ref p] ∧ (SqL K H p ys ∨ SqT K H p ys) ∧ ∀ l, H l = none → Q (.ref l) (upd H l (.lst ys))
def rTupOf (K : PySem.W.Frag) : List V → Hp → VK → Prop := fun xs H Q => ∃ p ys, xs = [.ref p] ∧ ((SqL K H p ys ∧ ∀ l, H l = none → Q (.ref l) (upd H l (.tup ys))) ∨ (SqT K H p ys ∧ Q (.ref p) H))
section
variable {X : Cx}
theorem c_len : CallR X (.builtin "len") (rLen X.K) := call_len_seq
theorem c_lenS : CallR X (.builtin "len") rLenS := call_len_str
theorem c_int1 : CallR X (.type "int") rInt1 := call_int1
theorem c_list : CallR X (.type "list") (rListOf X.K) := call_list_of
theorem c_tuple : CallR X (.type "tuple") (rTupOf X.K) := call_tuple_of
end
section
variable {D : Ends} {σ : St} {H : Hp} {Q : VK} {t u : TS} {te ta tb : TE} {g : TG} {x y v : V} {K : PySem.W.Frag}
theorem r_seq (h : t { D with nx := u D } σ H) : tSeq t u D σ H := h
theorem r_next (h : D.nx σ H) : tNext D σ H := h
theorem r_asg (h : te σ H fun x H1 => g x σ H1 D.nx) : tAsg te g D σ H := h
theorem r_gname {i : Nat} {σ' : St} {R : St → Hp → Prop} (e : σ.set i (some v) = σ') (h : R σ' H) : gName i v σ H R := by
  unfold gName
  rw [e]
  exact h
theorem r_ret (h : te σ H D.rt) : tRet te D σ H := h
theorem r_drop (h : te σ H fun _ H1 => D.nx σ H1) : tDrop te D σ H := h
theorem r_ifs {c : TT} (h : c σ H fun b H1 => if b = true then t D σ H1 else u D σ H1) : tIfS c t u D σ H := h
theorem r_var {i : Nat} (h : σ[i]? = some (some v)) (q : Q v H) : tVar i σ H Q := ⟨v, h, q⟩
theorem r_c (q : Q v H) : tC v σ H Q := q
theorem r_op {r : R2} (h : ta σ H fun x H1 => tb σ H1 fun y H2 => r x y H2 Q) : tOp r ta tb σ H Q := h
theorem r_i0 {f : Int → Int → V} {i j : Int} (h : Q (f i j) H) : rI0 f (.int i) (.int j) H Q := ⟨i, j, rfl, rfl, h⟩
theorem r_i {C : Int → Int → Prop} {f : Int → Int → V} {i j : Int} (c : C i j) (h : Q (f i j) H) : rI C f (.int i) (.int j) H Q := ⟨i, j, rfl, rfl, c, h⟩
theorem r_eqi {i j : Int} (h : Q (.bl (decide (i = j))) H) : rEq (.int i) (.int j) H Q := ⟨rfl, by rwa [show decide (V.int i = V.int j) = decide (i = j) from by simp]⟩
theorem r_eqs {i j : Str} (h : Q (.bl (decide (i = j))) H) : rEq (.str i) (.str j) H Q := ⟨rfl, by rwa [show decide (V.str i = V.str j) = decide (i = j) from by simp]⟩
theorem r_eqb {i j : Bool} (h : Q (.bl (decide (i = j))) H) : rEq (.bl i) (.bl j) H Q := ⟨rfl, by rwa [show decide (V.bl i = V.bl j) = decide (i = j) from by simp]⟩
theorem r_nei {i j : Int} (h : Q (.bl (!decide (i = j))) H) : rNe (.int i) (.int j) H Q := ⟨rfl, by rwa [show decide (V.int i = V.int j) = decide (i = j) from by simp]⟩
theorem r_nes {i j : Str} (h : Q (.bl (!decide (i = j))) H) : rNe (.str i) (.str j) H Q := ⟨rfl, by rwa [show decide (V.str i = V.str j) = decide (i = j) from by simp]⟩
theorem r_neb {i j : Bool} (h : Q (.bl (!decide (i = j))) H) : rNe (.bl i) (.bl j) H Q := ⟨rfl, by rwa [show decide (V.bl i = V.bl j) = decide (i = j) from by simp]⟩
theorem r_test {R : Bool → Hp → Prop} (h : te σ H fun x H' => ∃ k, x = .bl k ∧ R k H') : tTest te σ H R := h
theorem r_tb {R : Bool → Hp → Prop} (h : te σ H fun x H' => ∃ k, x = .bl k ∧ R k H') : tB te σ H R := h
theorem r_bl {b : Bool} {R : Bool → Prop} (h : R b) : ∃ k, V.bl b = V.bl k ∧ R k := ⟨b, rfl, h⟩
theorem r_and {p q : TT} {R : Bool → Hp → Prop} (h : p σ H fun c H1 => if c = true then q σ H1 R else R false H1) : tAnd p q σ H R := h
theorem r_or {p q : TT} {R : Bool → Hp → Prop} (h : p σ H fun c H1 => if c = true then R true H1 else q σ H1 R) : tOr p q σ H R := h
theorem r_not {p : TT} {R : Bool → Hp → Prop} (h : p σ H fun c H1 => R (!c) H1) : tNot p σ H R := h
theorem r_andV (h : ta σ H fun x H1 => ∃ c, x = .bl c ∧ if c = true then tb σ H1 Q else Q (.bl false) H1) : tAndV ta tb σ H Q := h
theorem r_orV (h : ta σ H fun x H1 => ∃ c, x = .bl c ∧ if c = true then Q (.bl true) H1 else tb σ H1 Q) : tOrV ta tb σ H Q := h
theorem r_notV (h : ta σ H fun x H1 => ∃ c, x = .bl c ∧ Q (.bl (!c)) H1) : tNotV ta σ H Q := h
theorem r_if {c : TT} (h : c σ H fun b H1 => if b = true then ta σ H1 Q else tb σ H1 Q) : tIf c ta tb σ H Q := h
theorem r_nil {R : List V → Hp → Prop} (h : R [] H) : tNil σ H R := h
theorem r_cons {tr : TA} {R : List V → Hp → Prop} (h : te σ H fun x H1 => tr σ H1 fun xs H2 => R (x :: xs) H2) : tCons te tr σ H R := h
def lstEnd (Q : VK) : List V → Hp → Prop := fun xs H1 => xs.length ≤ sizeLine ∧ ∀ p, H1 p = none → Q (.ref p) (upd H1 p (.lst xs))
def tupEnd (Q : VK) : List V → Hp → Prop := fun xs H1 => xs.length ≤ sizeLine ∧ ∀ p, H1 p = none → Q (.ref p) (upd H1 p (.tup xs))
theorem r_lst {tr : TA} (h : tr σ H (lstEnd Q)) : tLst tr σ H Q := h
theorem r_tup {tr : TA} (h : tr σ H (tupEnd Q)) : tTup tr σ H Q := h
theorem r_lstE {xs : List V} (l : xs.length ≤ sizeLine) (k : ∀ p H', H p = none → Same H H' → H' p = some (.lst xs) → Q (.ref p) H') : lstEnd Q xs H := ⟨l, fun p n => k p _ n (same_new n) upd_same⟩
theorem r_tupE {xs : List V} (l : xs.length ≤ sizeLine) (k : ∀ p H', H p = none → Same H H' → H' p = some (.tup xs) → Q (.ref p) H') : tupEnd Q xs H := ⟨l, fun p n => k p _ n (same_new n) upd_same⟩
theorem r_cb {r : List V → Hp → VK → Prop} {tr : TA} (h : tr σ H fun vs H1 => r vs H1 Q) : tCB r tr σ H Q := h
theorem r_call {sp : Sp} {dvs : List V} {E : XK} {tr : TA} (h : tr σ H fun vs H1 => sp (vs ++ dvs) H1 Q E) : tCall sp dvs E tr σ H Q := h
theorem r_dget (h : ta σ H fun x H1 => tb σ H1 fun y H2 => ∃ a v, x = .ref a ∧ DGet H2 a y (some v) ∧ Q v H2) : tDGet ta tb σ H Q := h
theorem r_dgetK {p : Addr} {kvs : List (Key × V)} {k : Str} {R : V → Prop} (h : H p = some (.dK kvs)) (e : valV kvs (.inr k) = some v) (q : R v) : ∃ a v, V.ref p = .ref a ∧ DGet H a (.str k) (some v) ∧ R v := ⟨p, v, rfl, dg h e, q⟩
theorem r_dput {tv : TE} (h : tv σ H fun v H1 => ta σ H1 fun x H2 => tb σ H2 fun y H3 => ∃ a H4, x = .ref a ∧ DPut H3 a y v H4 ∧ D.nx σ H4) : sDPut ta tb tv D σ H := h
theorem r_dputU {p : Addr} {kvs kvs' : List (Key × V)} {k : Str} {R : Hp → Prop} (e : putK kvs (.inr k) v = kvs') (hl : kvs.length < sizeLine) (q : R (upd H p (.dK kvs'))) : ∃ a H4, V.ref p = .ref a ∧ DPut (upd H p (.dK kvs)) a (.str k) v H4 ∧ R H4 := ⟨p, _, rfl, dpu e hl, q⟩
theorem r_dputK {p : Addr} {kvs kvs' : List (Key × V)} {k : Str} {R : Hp → Prop} (h : H p = some (.dK kvs)) (e : putK kvs (.inr k) v = kvs') (hl : kvs.length < sizeLine) (q : R (upd H p (.dK kvs'))) : ∃ a H4, V.ref p = .ref a ∧ DPut H a (.str k) v H4 ∧ R H4 := ⟨p, _, rfl, dp h e hl, q⟩
theorem r_len {p : Addr} {ys : List V} (h : SqL K H p ys) (q : Q (.int ys.length) H) : rLen K [.ref p] H Q := ⟨p, ys, rfl, .inl h, q⟩
theorem r_lenT {p : Addr} {ys : List V} (h : SqT K H p ys) (q : Q (.int ys.length) H) : rLen K [.ref p] H Q := ⟨p, ys, rfl, .inr h, q⟩
theorem r_int1 {i : Int} (q : Q (.int i) H) : rInt1 [.int i] H Q := .inl ⟨i, rfl, q⟩
theorem r_listL {p : Addr} {ys : List V} (h : SqL K H p ys) (q : ∀ l, H l = none → Q (.ref l) (upd H l (.lst ys))) : rListOf K [.ref p] H Q := ⟨p, ys, rfl, .inl h, q⟩
theorem r_listT {p : Addr} {ys : List V} (h : SqT K H p ys) (q : ∀ l, H l = none → Q (.ref l) (upd H l (.lst ys))) : rListOf K [.ref p] H Q := ⟨p, ys, rfl, .inr h, q⟩
theorem r_tupL {p : Addr} {ys : List V} (h : SqL K H p ys) (q : ∀ l, H l = none → Q (.ref l) (upd H l (.tup ys))) : rTupOf K [.ref p] H Q := ⟨p, ys, rfl, .inl ⟨h, q⟩⟩
theorem r_ixL {p : Addr} {xs : List V} {i : Int} (h : SqL K H p xs) (a : atI xs i = some v) (q : Q v H) : rIxL K (.ref p) (.int i) H Q := ⟨p, xs, i, v, rfl, rfl, h, a, q⟩
theorem r_ixT {p : Addr} {xs : List V} {i : Int} (h : SqT K H p xs) (a : atI xs i = some v) (q : Q v H) : rIxT K (.ref p) (.int i) H Q := ⟨p, xs, i, v, rfl, rfl, h, a, q⟩
end
theorem at_any {α : Type} {xs : List α} {a : Int} (h0 : 0 ≤ a) (h : a < (xs.length : Nat)) : ∃ z, z ∈ xs ∧ xs[a.toNat]? = some z ∧ atI xs a = some z := by
  obtain ⟨n, rfl⟩ := Int.eq_ofNat_of_zero_le h0
  have hk : n < xs.length := by omega
  exact ⟨xs[n], List.getElem_mem hk, by rw [Int.toNat_natCast]; exact List.getElem?_eq_getElem hk, atI_nat (List.getElem?_eq_getElem hk)⟩
theorem at_int {ns : List Int} {a : Int} (h0 : 0 ≤ a) (h : a < ((ns.map V.int).length : Nat)) : ∃ z, z ∈ ns ∧ atI (ns.map V.int) a = some (V.int z) := by
  obtain ⟨v, hv, _, e⟩ := at_any h0 h
  obtain ⟨z, hz, rfl⟩ := List.mem_map.mp hv
  exact ⟨z, hz, e⟩
theorem pen_put {H : Hp} {p c : Addr} {ns : List Int} {a r g m t : Int} (h : H c = some (.lst (ns.map V.int))) (n : c ≠ p) (ha : 0 ≤ a) (hm : 0 ≤ m) (hm2 : m < 2147483648) : PenStep p c H (upd H p (.dK (pk c a r g m t))) :=
  ⟨⟨ns, a, r, g, m, t, upd_same, by rw [upd_ne n]; exact h, ha, hm, hm2⟩, fun b o nb e => by rw [upd_ne nb]; exact e⟩
theorem wide100 {i b : Int} (h : 0 < b) (hb : b < 2 ^ 100) : CDivW i b := wide_div h (b := 100) (by omega) (by decide) (by decide)
theorem pow18 : CPow 10 18 := ⟨by decide, by decide, by decide⟩
def isDi : HO → Bool
  | .dK _ => true
  | .dT _ => true
  | .own _ => false
  | _ => false
theorem PenAt.ne {H : Hp} {p c b : Addr} {o : HO} (h : PenAt H p c) (e : H b = some o) (d : isDi o = false) : b ≠ p := fun z => by
  obtain ⟨ns, a, r, g, m, t, h1, _⟩ := h.ex
  rw [z, h1] at e
  cases Option.some.inj e
  cases d
theorem PenStep.at {p c b : Addr} {H H' : Hp} {o : HO} (s : PenStep p c H H') (h : PenAt H p c) (e : H b = some o) (d : isDi o = false) : H' b = some o := s.keep b o (h.ne e d) e
theorem PenStep.atd {p c b : Addr} {H H' : Hp} {o : HO} (s : PenStep p c H H') (e : H b = some o) (d : b ≠ p) : H' b = some o := s.keep b o d e
theorem Same.at {b : Addr} {H H' : Hp} {o : HO} (s : Same H H') (e : H b = some o) : H' b = some o := s b o e
theorem PenStep.free {p c b : Addr} {H H' : Hp} (s : PenStep p c H H') (e : H' b = none) : H b = none := by
  cases q : H b with
  | none => rfl
  | some o =>
    by_cases z : b = p
    · obtain ⟨u, h1⟩ := s.pen.some_p
      rw [z, h1] at e
      cases e
    · rw [s.keep b o z q] at e
      cases e
theorem same_put {H H1 : Hp} {q : Addr} {o : HO} (a : Same H H1) (n : H q = none) : Same H (upd H1 q o) := fun b u e => by rw [upd_ne (ne_of_none e n)]; exact a b u e
theorem r_pick {K : PySem.W.Frag} {H : Hp} {q : Addr} {r : Int} {l : List V} {Q : VK} (ns : List Str) (h : H q = some (.lst l)) (e : l = ns.map V.str) (h0 : 0 ≤ r) (h1 : r < (ns.length : Nat)) (k : ∀ a, a ∈ ns → Q (.str a) H) : rIxL K (.ref q) (.int r) H Q := by
  subst e
  obtain ⟨v, hv, _, e⟩ := at_any (xs := ns.map V.str) h0 (by rw [List.length_map]; exact h1)
  obtain ⟨z, hz, rfl⟩ := List.mem_map.mp hv
  exact r_ixL (SqL.of h) e (k z hz)
end Wm
namespace Wm
open PySem L2 PySem.Spec
open PyProof.Rows hiding St
section
variable {X : Cx}
def rEqOwn (K : PySem.W.Frag) (C : Addr) (sp : Sp) (E : XK) : R2 := fun x y H Q => ∃ a dx fs tb, x = .ref a ∧ H a = some (.ins C dx fs) ∧ TyX K H y tb ∧ PySem.W.notFirst K C tb = true ∧ sp [x, y] H (fun v H' => (∃ b, v = .bl b) ∧ Q v H') E
theorem op_eqOwn {CX : CXT} {C f : Addr} {fd : FuncData} {ps : List Str} {k : Nat} {sp : Sp} {E : XK} (F : FnOk X.prog X.w X.K X.mg X.base CX k f fd ps sp) (hr : Room k X.A)
    (hm : Meth X.K C "__eq__" f) (hb : Binds X.K fd ps []) (hx : Passes CX X E) : OpR X (compareOp .Eq) (rEqOwn X.K C sp E) := by
  intro pins s σ H x y v u Q I rx ry hq
  obtain ⟨a, dx, fs, tb, rfl, ha, ty, hn, hsp⟩ := hq
  cases rx
  obtain ⟨mA, J, _⟩ := ins_get I.hok ha
  obtain ⟨od, J, _⟩ := J.look
  obtain ⟨m, hF⟩ := I.fr
  obtain ⟨PP, Z, hp, _⟩ := kit_of I ry ty
  show wpAny (model X.prog X.w) X.A (richCompare .Eq (.ref a) u) (EP X pins σ Q) X.xe s
  refine PySem.W.cmp_K (op := .Eq) (tb := tb) hr.units0 hF I.ok.mod.kin J (Z.ty _ _ I.kIn hp) hn hm.at_ hm.fn ?_
  refine wpAny_mono (run_fn F hr hb .nil hx I (vs := [.ref a, y]) (us := [.ref a, u]) (.cons rfl (.cons ry .nil)) hsp) (fun r s' z => ?_) fun _ _ e => e
  obtain ⟨v, H', I', rv, hvb, q⟩ := z
  obtain ⟨b', rfl⟩ := hvb
  cases rv
  exact ⟨.bl b', H', I', rfl, q⟩
def tMakeKS (C : Addr) (n m : Nat) (sp : Sp) (gV : List V → List V → List V) (E : St → XK) (t tk : TA) : TE := fun σ H Q => t σ H fun vs H1 => tk σ H1 fun zs H2 => vs.length = n ∧ zs.length = m ∧ ∀ x dx, H2 x = none → H2 dx = none → dx ≠ x →
  sp (gV (.ref x :: vs) zs) (upd (upd H2 dx (.own x)) x (.ins C dx [])) (fun v H3 => v = .non ∧ Q (.ref x) H3) (E σ)
section
variable {CX : CXT} {k n : Nat} {f C : Addr} {fd : FuncData} {ps ks : List Str} {sp : Sp} {E : St → XK} {x : Str} {p pos : Pos} {e : Expr} {es : List Expr} {kws : List Keyword} {t tk : TA} {g : List Value → List Value → List Value} {gV : List V → List V → List V}
end
end
section
variable {D : Ends} {σ : St} {H : Hp} {Q : VK} {K : PySem.W.Frag} {x y : V}
theorem r_isi {T a : String} {b : Bool} (h : TyX K H x (.type a)) (e : kitB a T = some b) (q : Q (.bl b) H) : rIsi K [x, .ty T] H Q := ⟨x, .ty T, .type a, .type T, b, rfl, .ty T, h, kit_ty e, q⟩
theorem r_fld {ta : TE} {f : Str} (h : ta σ H fun x H1 => ∃ a C dx fs v, x = .ref a ∧ H1 a = some (.ins C dx fs) ∧ Cls K C ∧ NoAttr K C f ∧ fs.lookup f = some v ∧ Q v H1) : tFld K ta f σ H Q := h
theorem r_fldK {p C dx : Addr} {fs : List (Str × V)} {f : Str} {v : V} {R : V → Prop} (h : H p = some (.ins C dx fs)) (c : Cls K C) (n : NoAttr K C f) (e : fs.lookup f = some v) (q : R v) :
    ∃ a C dx fs v, V.ref p = .ref a ∧ H a = some (.ins C dx fs) ∧ Cls K C ∧ NoAttr K C f ∧ fs.lookup f = some v ∧ R v := ⟨p, C, dx, fs, v, rfl, h, c, n, e, q⟩
theorem r_fldS {ta tv : TE} {f : Str} (h : tv σ H fun y H1 => ta σ H1 fun x H2 => ∃ a C dx fs, x = .ref a ∧ H2 a = some (.ins C dx fs) ∧ Cls K C ∧ NoAttr K C f ∧ fs.length < 1000 ∧ D.nx σ (upd H2 a (.ins C dx (putF f y fs)))) : sFld K ta tv f D σ H := h
theorem r_fldP {p C dx : Addr} {fs fs' : List (Str × V)} {f : Str} {y : V} (h : H p = some (.ins C dx fs)) (c : Cls K C) (n : NoAttr K C f) (l : fs.length < 1000) (e : putF f y fs = fs') (q : D.nx σ (upd H p (.ins C dx fs'))) :
    ∃ a C dx fs, V.ref p = .ref a ∧ H a = some (.ins C dx fs) ∧ Cls K C ∧ NoAttr K C f ∧ fs.length < 1000 ∧ D.nx σ (upd H a (.ins C dx (putF f y fs))) := ⟨p, C, dx, fs, rfl, h, c, n, l, by rw [e]; exact q⟩
theorem r_gsub {to ti : TE} {t : TSet} {v : V} {R : St → Hp → Prop} (h : to σ H fun o H1 => ti σ H1 fun i H2 => t o i v H2 fun H3 => R σ H3) : gSub to ti t v σ H R := h
theorem r_setL {p : Addr} {xs xs' : List V} {k : Int} {j : Nat} {v : V} {R : Hp → Prop} (h : H p = some (.lst xs)) (e : ixN xs.length k = some j) (e2 : xs.set j v = xs') (q : R (upd H p (.lst xs'))) : rSetL (.ref p) (.int k) v H R := ⟨p, xs, k, j, rfl, rfl, h, e, by rw [e2]; exact q⟩
theorem r_gtup {n : Nat} {t : TGs} {p : Addr} {xs : List V} {R : St → Hp → Prop} (h : SqT K H p xs) (l : xs.length = n) (q : t xs σ H R) : gTup K n t (.ref p) σ H R := ⟨p, xs, rfl, h, l, q⟩
theorem r_gcons {t : TG} {u : TGs} {v : V} {r : List V} {R : St → Hp → Prop} (q : t v σ H fun σ' H' => u r σ' H' R) : gCons t u (v :: r) σ H R := ⟨v, r, rfl, q⟩
theorem r_gnil {R : St → Hp → Prop} (q : R σ H) : gNil [] σ H R := ⟨rfl, q⟩
theorem r_bm {T : String} {r : V → List V → Hp → VK → Prop} {to : TE} {t : TA} (h : to σ H fun x H1 => tyV K T x H1 ∧ t σ H1 fun xs H2 => r x xs H2 Q) : tBM K T r to t σ H Q := h
theorem r_bm0 {T : String} {r : V → List V → Hp → VK → Prop} {to : TE} (h : to σ H fun x H1 => tyV K T x H1 ∧ r x [] H1 Q) : tBM0 K T r to σ H Q := h
theorem r_tyL {p : Addr} {xs : List V} {R : Prop} (h : SqL K H p xs) (q : R) : tyV K "list" (.ref p) H ∧ R := ⟨.inl ⟨rfl, xs, h⟩, q⟩
theorem r_append {p : Addr} {xs : List V} {y : V} (h : H p = some (.lst xs)) (l : xs.length < sizeLine) (q : Q .non (upd H p (.lst (xs ++ [y])))) : rAppend (.ref p) [y] H Q := ⟨p, xs, y, rfl, rfl, h, l, q⟩
theorem r_in {neg : Bool} {p : Addr} {xs : List V} {x : V} (h : SqL K H p xs ∨ SqT K H p xs) (f : flatV x = true) (g : xs.all flatV = true) (q : Q (.bl (if neg then !inV x xs else inV x xs)) H) : rIn K neg x (.ref p) H Q := ⟨p, xs, rfl, h, f, g, q⟩
theorem r_lenK {p : Addr} {ys : List V} (h : H p = some (.lst ys)) (q : Q (.int ys.length) H) : rLen K [.ref p] H Q := r_len (.of h) q
theorem r_lenTK {p : Addr} {ys : List V} (h : H p = some (.tup ys)) (q : Q (.int ys.length) H) : rLen K [.ref p] H Q := r_lenT (.of h) q
theorem r_listLK {p : Addr} {ys : List V} (h : H p = some (.lst ys)) (q : ∀ l H', H l = none → Same H H' → H' l = some (.lst ys) → Q (.ref l) H') : rListOf K [.ref p] H Q := r_listL (.of h) fun l n => q l _ n (same_new n) upd_same
theorem r_listTK {p : Addr} {ys : List V} (h : H p = some (.tup ys)) (q : ∀ l H', H l = none → Same H H' → H' l = some (.lst ys) → Q (.ref l) H') : rListOf K [.ref p] H Q := r_listT (.of h) fun l n => q l _ n (same_new n) upd_same
theorem r_ixLK {p : Addr} {xs : List V} {i : Int} {v : V} (h : H p = some (.lst xs)) (a : atI xs i = some v) (q : Q v H) : rIxL K (.ref p) (.int i) H Q := r_ixL (.of h) a q
theorem r_ixTK {p : Addr} {xs : List V} {i : Int} {v : V} (h : H p = some (.tup xs)) (a : atI xs i = some v) (q : Q v H) : rIxT K (.ref p) (.int i) H Q := r_ixT (.of h) a q
theorem r_gtupK {n : Nat} {t : TGs} {p : Addr} {xs : List V} {R : St → Hp → Prop} (h : H p = some (.tup xs)) (l : xs.length = n) (q : t xs σ H R) : gTup K n t (.ref p) σ H R := r_gtup (.of h) l q
theorem r_tyLK {p : Addr} {xs : List V} {R : Prop} (h : H p = some (.lst xs)) (q : R) : tyV K "list" (.ref p) H ∧ R := r_tyL (.of h) q
theorem r_for {wi : TI} {g : TG} {tb : TS} (h : wi σ H fun J H1 => ∃ W : Nat → Nat → St → Hp → Prop, (∃ m, W 0 m σ H1) ∧ ∀ i m σ H, W i m σ H →
  (J.stop i H ∧ D.nx σ H) ∨ (J.go i H ∧ ∃ N : St → Hp → Prop, (∀ σ' H', N σ' H' → ∃ m', m' < m ∧ W (i + 1) m' σ' H') ∧ ∀ x H', J.yld i H x H' → g x σ H' fun σ2 H2 => tb { D with nx := N, ct := N, bk := D.nx } σ2 H2)) : tFor wi g tb D σ H := h
theorem r_il {tl : TE} {R : It → Hp → Prop} (h : tl σ H fun x H1 => ∃ a, x = .ref a ∧ (∃ xs, SqL K H1 a xs) ∧ R (Itl K a) H1) : iList K tl σ H R := h
theorem r_it {tl : TE} {R : It → Hp → Prop} (h : tl σ H fun x H1 => ∃ a, x = .ref a ∧ (∃ xs, SqT K H1 a xs) ∧ R (Itt K a) H1) : iTup K tl σ H R := h
theorem r_rng1 {ta : TA} {R : It → Hp → Prop} (h : ta σ H fun vs H1 => ∃ j : Int, vs = [.int j] ∧ -(2 ^ 62) ≤ j ∧ j < 2 ^ 62 ∧ R (Itr 0 j.toNat) H1) : iRng1 ta σ H R := h
theorem r_rngK {j : Int} {R : Int → Prop} (h1 : -(2 ^ 62) ≤ j) (h2 : j < 2 ^ 62) (q : R j) : ∃ k : Int, [V.int j] = [.int k] ∧ -(2 ^ 62) ≤ k ∧ k < 2 ^ 62 ∧ R k := ⟨j, rfl, h1, h2, q⟩
theorem r_ilK {p : Addr} {xs : List V} {R : Addr → Prop} (h : SqL K H p xs) (q : R p) : ∃ a, V.ref p = .ref a ∧ (∃ xs, SqL K H a xs) ∧ R a := ⟨p, rfl, ⟨xs, h⟩, q⟩
theorem r_itK {p : Addr} {xs : List V} {R : Addr → Prop} (h : SqT K H p xs) (q : R p) : ∃ a, V.ref p = .ref a ∧ (∃ xs, SqT K H a xs) ∧ R a := ⟨p, rfl, ⟨xs, h⟩, q⟩
theorem r_dnew (q : ∀ p H', H p = none → Same H H' → H' p = some (.dK []) → Q (.ref p) H') : tDNewK σ H Q := fun p n => q p _ n (same_new n) upd_same
def dispEnd (p : Addr) (Q : VK) : List (V × V) → Hp → Prop := fun ps H2 => H2 p = some (.dK []) ∧ ∃ kvs : List (Key × V), ps = kvs.map (fun kv => (kV kv.1, kv.2)) ∧ kvs.length ≤ 15 ∧ Q (.ref p) (upd H2 p (.dK (mergeK [] kvs)))
theorem r_disp {trs : List (TE × TE)} (h : ∀ p H', H p = none → Same H H' → H' p = some (.dK []) → tPairs trs σ H' (dispEnd p Q)) : tDisp trs σ H Q := fun p n => h p _ n (same_new n) upd_same
theorem r_dispE {p : Addr} {ps : List (V × V)} (kvs kvs' : List (Key × V)) (h : H p = some (.dK [])) (e : ps = kvs.map (fun kv => (kV kv.1, kv.2))) (l : kvs.length ≤ 15) (e2 : mergeK [] kvs = kvs') (q : Q (.ref p) (upd H p (.dK kvs'))) :
    dispEnd p Q ps H := ⟨h, kvs, e, l, by rw [e2]; exact q⟩
theorem r_neg {i : Int} (q : Q (.int (-i)) H) : rU (fun i => .int (-i)) (.int i) H Q := ⟨i, rfl, q⟩
theorem r_un {r : V → Hp → VK → Prop} {ta : TE} (h : ta σ H fun x H1 => r x H1 Q) : tUn r ta σ H Q := h
theorem r_pn {R : List (V × V) → Hp → Prop} (q : R [] H) : tPairs [] σ H R := q
theorem r_pc {tk tv : TE} {r : List (TE × TE)} {R : List (V × V) → Hp → Prop} (q : tk σ H fun k H1 => tv σ H1 fun v H2 => tPairs r σ H2 fun ps H3 => R ((k, v) :: ps) H3) : tPairs ((tk, tv) :: r) σ H R := q
theorem r_anyIx {p : Addr} {r : Int} {l : List V} (h : H p = some (.lst l)) (h0 : 0 ≤ r) {n : Int} (h1 : r < n) (hn : n = (l.length : Nat)) (k : ∀ v, v ∈ l → Q v H) : rIxL K (.ref p) (.int r) H Q := by
  obtain ⟨v, hv, _, e⟩ := at_any h0 (hn ▸ h1)
  exact r_ixL (SqL.of h) e (k v hv)
def erEnd (C : Addr) (fs : List Str) (W : WX) (σ : St) : List V → Hp → Prop := fun vs H1 => vs.length = fs.length ∧ vs.length ≤ 1000 ∧ (fs = [] → W (.ref C) none σ H1) ∧ (fs ≠ [] → ∀ d, H1 d = none → W (.ref C) (some d) σ (upd H1 d (.xd (fs.zip vs))))
theorem r_raiseEr {C : Addr} {fs : List Str} {W : WX} {ta : TA} (h : ta σ H (erEnd C fs W σ)) : tRaiseEr C fs W ta D σ H := h
theorem r_erE {C : Addr} {fs : List Str} {W : WX} {vs : List V} (l : vs.length = fs.length) (l2 : vs.length ≤ 1000) (hn : fs ≠ []) (k : ∀ d H', H d = none → Same H H' → H' d = some (.xd (fs.zip vs)) → W (.ref C) (some d) σ H') : erEnd C fs W σ vs H :=
  ⟨l, l2, fun z => absurd z hn, fun _ d n => k d _ n (same_new n) upd_same⟩
theorem r_erE0 {C : Addr} {W : WX} (k : W (.ref C) none σ H) : erEnd C [] W σ [] H := ⟨rfl, Nat.zero_le _, fun _ => k, fun z => absurd rfl z⟩
theorem r_isiO {C : Addr} {t : Value} {b : Bool} (h : TyX K H x t) (e : PySem.W.kitOne K t (.ref C) = some b) (q : Q (.bl b) H) : rIsi K [x, .ref C] H Q := ⟨x, .ref C, t, .ref C, b, rfl, .own C, h, e, q⟩
structure OwnC (K : PySem.W.Frag) (C : Addr) : Prop where
  cl : Cls K C
  ha : PySem.W.findIn K (.ref C) "__class__" = some (some (.builtin "object.__class__"))
  hn : PySem.W.specialIn K (.builtin "object.__class__") "__get__" = some (some (.builtin "getset_descriptor.__get__"))
  ht : PySem.W.takesIn K (.builtin "object.__class__") = some true
  hm : PySem.W.mroIn K C (.type "object") = some true
  self : PySem.W.kitOne K (.ref C) (.ref C) = some true
  base : ∀ t, t ∈ ["NoneType", "bool", "int", "str", "list", "tuple", "dict"] → PySem.W.kitOne K (.type t) (.ref C) = some false
theorem OwnC.ty {C p dx : Addr} {fs : List (Str × V)} (o : OwnC K C) (h : H p = some (.ins C dx fs)) : TyX K H (.ref p) (.ref C) := .base (.ins h o.cl o.ha o.hn o.ht o.hm)
def mkQ (Q : VK) (x : Addr) : VK := fun v H3 => v = .non ∧ Q (.ref x) H3
theorem r_mkQ {p : Addr} (q : Q (.ref p) H) : mkQ Q p .non H := ⟨rfl, q⟩
def mkEnd (C : Addr) (n m : Nat) (sp : Sp) (gV : List V → List V → List V) (E : XK) (Q : VK) (vs : List V) : List V → Hp → Prop := fun zs H2 => vs.length = n ∧ zs.length = m ∧ ∀ x dx, H2 x = none → H2 dx = none → dx ≠ x →
  sp (gV (.ref x :: vs) zs) (upd (upd H2 dx (.own x)) x (.ins C dx [])) (mkQ Q x) E
def mk1End (C : Addr) (sp : Sp) (dvs : List V) (E : XK) (Q : VK) : List V → Hp → Prop := fun vs H2 => ∀ x dx, H2 x = none → H2 dx = none → dx ≠ x →
  sp (.ref x :: (vs ++ dvs)) (upd (upd H2 dx (.own x)) x (.ins C dx [])) (mkQ Q x) E
theorem same_mk {C x dx : Addr} {fs : List (Str × V)} (n1 : H x = none) (n2 : H dx = none) (n3 : dx ≠ x) : Same H (upd (upd H dx (.own x)) x (.ins C dx fs)) := same_put (same_new n2) n1
theorem r_makeKS {C : Addr} {n m : Nat} {sp : Sp} {gV : List V → List V → List V} {E : St → XK} {tx tk : TA} (h : tx σ H fun vs H1 => tk σ H1 (mkEnd C n m sp gV (E σ) Q vs)) : tMakeKS C n m sp gV E tx tk σ H Q := h
theorem r_makeK {C : Addr} {n m : Nat} {sp : Sp} {gV : List V → List V → List V} {E : XK} {tx tk : TA} (h : tx σ H fun vs H1 => tk σ H1 (mkEnd C n m sp gV E Q vs)) : tMakeK C n m sp gV E tx tk σ H Q := h
theorem r_make {C : Addr} {sp : Sp} {dvs : List V} {E : XK} {tx : TA} (h : tx σ H (mk1End C sp dvs E Q)) : tMake C sp dvs E tx σ H Q := h
theorem r_mkE {C : Addr} {n m : Nat} {sp : Sp} {gV : List V → List V → List V} {E : XK} {vs zs : List V} (l1 : vs.length = n) (l2 : zs.length = m)
    (k : ∀ x dx H', H x = none → Same H H' → H' x = some (.ins C dx []) → sp (gV (.ref x :: vs) zs) H' (mkQ Q x) E) : mkEnd C n m sp gV E Q vs zs H := ⟨l1, l2, fun x dx n1 n2 n3 => k x dx _ n1 (same_mk n1 n2 n3) upd_same⟩
theorem r_mk1E {C : Addr} {sp : Sp} {dvs vs : List V} {E : XK} (k : ∀ x dx H', H x = none → Same H H' → H' x = some (.ins C dx []) → sp (.ref x :: (vs ++ dvs)) H' (mkQ Q x) E) : mk1End C sp dvs E Q vs H := fun x dx n1 n2 n3 => k x dx _ n1 (same_mk n1 n2 n3) upd_same
theorem same_but {p : Addr} {H1 H2 : Hp} (n : H p = none) (s : Same H H1) (k : ∀ b o, b ≠ p → H1 b = some o → H2 b = some o) : Same H H2 := fun b o e => k b o (ne_of_none e n) (s b o e)
theorem r_xf {a : Addr} {cls : Value} {d : Option Addr} {C : Addr} {f : Str} {te : TE} (h : te σ H fun x H1 => x = .ref a ∧ cls = .ref C ∧ ∃ (dd : Addr) (fs : List (Str × V)) (v : V), d = some dd ∧ H1 dd = some (.xd fs) ∧ fs.lookup f = some v ∧ Q v H1) : tXf a cls d C f te σ H Q := h
theorem r_xfK {a C dd : Addr} {fs : List (Str × V)} {f : Str} {v : V} {R : V → Prop} (h : H dd = some (.xd fs)) (e : fs.lookup f = some v) (q : R v) : V.ref a = .ref a ∧ Value.ref C = .ref C ∧ ∃ (d2 : Addr) (fs : List (Str × V)) (v : V), some dd = some d2 ∧ H d2 = some (.xd fs) ∧ fs.lookup f = some v ∧ R v :=
  ⟨rfl, rfl, dd, fs, v, rfl, h, e, q⟩
theorem iteNF {A B : Prop} (h : A) : if (!false) = true then A else B := h
theorem iteNT {A B : Prop} (h : B) : if (!true) = true then A else B := h
theorem inV_strs {x : Str} {ss : List Str} : inV (.str x) (ss.map V.str) = decide (x ∈ ss) := by
  unfold inV
  rw [List.any_map]
  induction ss with
  | nil => rfl
  | cons a l ih =>
    rw [List.any_cons, ih]
    show ((a == x) || _) = _
    by_cases e : a = x
    · subst e
      simp
    · have e' : ¬ x = a := fun z => e z.symm
      simp [e, e']
theorem flat_strs (ss : List Str) : (ss.map V.str).all flatV = true := by
  induction ss with
  | nil => rfl
  | cons a l ih => exact ih
theorem r_inSN {p : Addr} {ss : List Str} {x : Str} (h : SqL K H p (ss.map V.str) ∨ SqT K H p (ss.map V.str)) (q : Q (.bl (!decide (x ∈ ss))) H) : rIn K true (.str x) (.ref p) H Q := r_in h rfl (flat_strs ss) (by rw [inV_strs]; exact q)
theorem r_inSP {p : Addr} {ss : List Str} {x : Str} (h : SqL K H p (ss.map V.str) ∨ SqT K H p (ss.map V.str)) (q : Q (.bl (decide (x ∈ ss))) H) : rIn K false (.str x) (.ref p) H Q := r_in h rfl (flat_strs ss) (by rw [inV_strs]; exact q)
end
end Wm
namespace Wm
open PySem L2 PySem.Spec PySem.W PySem.SeqAt ClX
open PyProof.Rows hiding St
def rEqP (K : PySem.W.Frag) : R2 := fun x y H Q => ∃ d e, Dp K H x d ∧ Dp K H y e ∧ d.plain = true ∧ e.plain = true ∧ d.depth ≤ 64 ∧ Q (.bl (PyData.eqv d e)) H
def rNeP (K : PySem.W.Frag) : R2 := fun x y H Q => ∃ d e, Dp K H x d ∧ Dp K H y e ∧ d.plain = true ∧ e.plain = true ∧ d.depth ≤ 64 ∧ Q (.bl (!PyData.eqv d e)) H
section
variable {X : Cx}
theorem op_eqP (hu : X.A.units + 64 < cLine) : OpR X (compareOp .Eq) (rEqP X.K) := by
  intro pins s σ H x y v u Q I rx ry h
  obtain ⟨d, e, hd, he, sd, se, hdp, q⟩ := h
  obtain ⟨as, r1⟩ := Dp.reads I d x v hd rx
  obtain ⟨bs, r2⟩ := Dp.reads I e y u he ry
  exact eq_plain r1 r2 sd se (by omega) ⟨.bl _, H, I, rfl, q⟩
theorem op_neP (hu : X.A.units + 64 < cLine) : OpR X (compareOp .NotEq) (rNeP X.K) := by
  intro pins s σ H x y v u Q I rx ry h
  obtain ⟨d, e, hd, he, sd, se, hdp, q⟩ := h
  obtain ⟨as, r1⟩ := Dp.reads I d x v hd rx
  obtain ⟨bs, r2⟩ := Dp.reads I e y u he ry
  exact ne_plain r1 r2 sd se (by omega) ⟨.bl _, H, I, rfl, q⟩
end
section
variable {H : Hp} {Q : VK} {K : PySem.W.Frag} {x y : V}
theorem r_eqT {α : Type} [DecidableEq α] [Datum α] (a b : α) (h : Dp K H x (Datum.toD a)) (h' : Dp K H y (Datum.toD b)) (q : Q (.bl (decide (a = b))) H) (hd : Datum.depth α ≤ 64 := by decide) : rEqP K x y H Q :=
  ⟨_, _, h, h', Datum.plain a, Datum.plain b, Nat.le_trans (Datum.depth_le a) hd, by rw [Datum.eqv]; exact q⟩
theorem r_neT {α : Type} [DecidableEq α] [Datum α] (a b : α) (h : Dp K H x (Datum.toD a)) (h' : Dp K H y (Datum.toD b)) (q : Q (.bl (!decide (a = b))) H) (hd : Datum.depth α ≤ 64 := by decide) : rNeP K x y H Q :=
  ⟨_, _, h, h', Datum.plain a, Datum.plain b, Nat.le_trans (Datum.depth_le a) hd, by rw [Datum.eqv]; exact q⟩
theorem dps_str : ∀ (ss : List Str), DpAll K H (ss.map V.str) (ss.map Datum.toD)
  | [] => .nil
  | s :: ss => .cons (.str s) (dps_str ss)
theorem dp_strs {p : Addr} {ss : List Str} (h : H p = some (.lst (ss.map V.str))) : Dp K H (.ref p) (Datum.toD ss) := .lst (.of h) (dps_str ss)
theorem dp_strsT {p : Addr} {ss : List Str} (h : H p = some (.tup (ss.map V.str))) : Dp K H (.ref p) (Datum.toD (Tup.mk ss)) := .tup (.of h) (dps_str ss)
theorem r_neSS {p q : Addr} {xs ys : List V} (ss tt : List Str) (h : H p = some (.lst xs)) (h' : H q = some (.lst ys)) (e : xs = ss.map V.str) (e' : ys = tt.map V.str) (k : Q (.bl (!decide (ss = tt))) H) : rNeP K (.ref p) (.ref q) H Q :=
  r_neT ss tt (dp_strs (e ▸ h)) (dp_strs (e' ▸ h')) k
theorem r_glst {σ : St} {n : Nat} {t : TGs} {p : Addr} {xs : List V} {R : St → Hp → Prop} (h : H p = some (.lst xs)) (l : xs.length = n) (q : t xs σ H R) : gLst K n t (.ref p) σ H R := ⟨p, xs, rfl, .of h, l, q⟩
theorem r_cval {σ : St} {ta : TE} {f : Str} (h : ta σ H fun x H1 => ∃ C mc v u, x = .ref C ∧ CRead K C mc ∧ CVal K C mc f v u ∧ Q v H1) : tCVal K ta f σ H Q := h
theorem r_cvalK {C : Addr} {mc u : Value} {f : Str} {v : V} {R : V → Prop} (a : CRead K C mc) (b : CVal K C mc f v u) (q : R v) : ∃ C' mc v u, V.ref C = .ref C' ∧ CRead K C' mc ∧ CVal K C' mc f v u ∧ R v := ⟨C, mc, v, u, rfl, a, b, q⟩
theorem r_rEqOwn {a C dx : Addr} {fs : List (Str × V)} {tb : Value} {sp : Sp} {E : XK} (h : H a = some (.ins C dx fs)) (ty : TyX K H y tb) (n : PySem.W.notFirst K C tb = true) (k : sp [.ref a, y] H (fun v H' => (∃ b, v = .bl b) ∧ Q v H') E) : rEqOwn K C sp E (.ref a) y H Q := ⟨a, dx, fs, tb, rfl, h, ty, n, k⟩
theorem r_ifJ {t u : TS} {D : Ends} {σ : St} {b : Bool} (P : St → Hp → Prop) (rest : ∀ σ H, P σ H → D.nx σ H) (k : ∀ N : St → Hp → Prop, (∀ σ H, P σ H → N σ H) → if b = true then t { D with nx := N } σ H else u { D with nx := N } σ H) : if b = true then t D σ H else u D σ H := k D.nx rest
theorem ite_nd {p q : Bool} {A B : Prop} (e : p = q) (h : B) : if (!decide (p = q)) = true then A else B := by
  rw [e]
  simpa using h
end
end Wm
namespace Wm
open PySem L2 PySem.Er PySem.W
theorem er_mk {prog : Program} {K : Frag} {qual : Str} {fs : List Str} {C fI cda cc : Addr} {oc ct ccl cl doc pm : Value} {od an cdd cld : Option Addr} {params : Arguments} {body : List Stmt} {scope : Scope} {osl ccs csl : Array (Option Value)} {vs : Array Value} {file : Str} {tf : Tok}
    {B newId initId : String} {bmB : List Value} (KF : KxsFacts B initId) (FB : ExcBaseFacts B newId initId bmB) (SF : StoreFacts B bmB "object.__setattr__" "object") (fm : IForm fs params body scope)
    (init : findIn K (.ref C) "__init__" = some (some (.ref fI))) (ty : typeIn K (.ref fI) = some (.type "function"))
    (lk : K.lookup fI = some ⟨oc, od, .func (ksFn "__init__" qual params body scope .none .none doc pm an (.ref cda) ct cc), osl⟩) (hc : codeIn K (.ref cda) qual = true)
    (code : K.lookup cda = some ⟨ccl, cdd, .fields vs, ccs⟩) (hv : vs[2]? = some (.str file tf)) (hf : ((prog.main.file : Str) == file) = true) (cell : K.lookup cc = some ⟨cl, cld, .cell (some (.ref C)), csl⟩)
    (ic : isClsIn K C = true) (sub : mroIn K C (.ref C) = some true) (noS : nsIn K mainGlobals "super" = some none) (noT : nsIn K cStatics "thirdparty.any" = some none) (top : (prog.main.scope.names.lookup ("super" : Str)).isSome = false)
    (sup : ks_superIn K C C "__init__" = some (some (.builtin initId))) (base : subIn K (.ref C) (.type B) = some true) (exc : excInitIn K C bmB newId = true)
    (sa : findIn K (.ref C) "__setattr__" = some (some (.builtin "object.__setattr__"))) (ov : excOver K C bmB = true) (hd : hasDictIn K C = true) (no : ∀ f ∈ fs, findIn K (.ref C) f = some none)
    (exC : subIn K (.ref C) (.type "BaseException") = some true) (tyC : typeIn K (.ref C) = some (.type "type")) (kC : keepIn K (.ref C) = true) : ErC prog K qual fs C :=
  { ex := ⟨fI, B, newId, initId, bmB, { fn := ⟨oc, od, params, body, scope, doc, pm, an, cda, cc, ct, osl, lk, hc, fm, { code := ⟨ccl, cdd, ccs, vs, file, tf, code, hv, hf⟩, cell := ⟨cl, cld, csl, cell⟩, cls := Option.isSome_iff_exists.mp ic, sub := sub, noS := noS, noT := noT, top := top, sup := sup, base := base, exc := exc }⟩, sa := sa, ov := ov, hd := hd, no := no, init := init, ty := ty }, KF, FB, SF, exc⟩
    exC := exC, tyC := tyC, kC := kC }
theorem exm_self {K : Frag} {S : Addr} (h1 : subIn K (.ref S) (.type "BaseException") = some true) (h2 : isClsIn K S = true) (h3 : typeIn K (.ref S) = some (.type "type")) (h4 : subIn K (.ref S) (.ref S) = some true) : exmOne K (.ref S) (.ref S) = some true := by
  have e1 : (subIn K (.ref S) (.type "BaseException") == some true) = true := by rw [h1] <;> rfl
  have e2 : ((clsIn K S).isSome && typeIn K (.ref S) == some (.type "type")) = true := by
    have h2' : (clsIn K S).isSome = true := h2
    rw [h2', h3] <;> rfl
  show (if (subIn K (.ref S) (.type "BaseException") == some true) = true then (if ((clsIn K S).isSome && typeIn K (.ref S) == some (.type "type")) = true then subIn K (.ref S) (.ref S) else none) else none) = some true
  rw [if_pos e1, if_pos e2]
  exact h4
theorem sqt_mk {K : Frag} {a : Addr} {od : Option Addr} {its : Array Value} {n : Nat} {sl : Array (Option Value)} {xs : List V} (h : K.lookup a = some ⟨.type "tuple", od, .seq its n, sl⟩) (l : decide (its.size ≤ 16777216) = true) (r : Vals xs its.toList) : ∀ H, SqT K H a xs :=
  fun H => .inr ⟨_, its, n, h, rfl, rfl, by rw [sizeLine_eq]; exact of_decide_eq_true l, r⟩
theorem own_mk {K : Frag} {C : Addr} (pg : plainGet K C Str.empty = true) (hd : hasDictIn K C = true) (po : plainOver K C = true) (sa : findIn K (.ref C) "__setattr__" = some (some (.builtin "object.__setattr__")))
    (ha : findIn K (.ref C) "__class__" = some (some (.builtin "object.__class__"))) (hn : specialIn K (.builtin "object.__class__") "__get__" = some (some (.builtin "getset_descriptor.__get__"))) (ht : takesIn K (.builtin "object.__class__") = some true) (hm : mroIn K C (.type "object") = some true)
    (k1 : kitOne K (.ref C) (.ref C) = some true) (b1 : kitOne K (.type "NoneType") (.ref C) = some false) (b2 : kitOne K (.type "bool") (.ref C) = some false) (b3 : kitOne K (.type "int") (.ref C) = some false) (b4 : kitOne K (.type "str") (.ref C) = some false)
    (b5 : kitOne K (.type "list") (.ref C) = some false) (b6 : kitOne K (.type "tuple") (.ref C) = some false) (b7 : kitOne K (.type "dict") (.ref C) = some false) : OwnC K C :=
  { cl := ⟨pg, hd, po, sa⟩, ha := ha, hn := hn, ht := ht, hm := hm, self := k1, base := fun t ht => by
      simp only [List.mem_cons, List.not_mem_nil, or_false] at ht
      rcases ht with rfl | rfl | rfl | rfl | rfl | rfl | rfl <;> assumption }
theorem nf_mk {K : Frag} {C : Addr} (b1 : notFirst K C (.type "NoneType") = true) (b2 : notFirst K C (.type "bool") = true) (b3 : notFirst K C (.type "int") = true) (b4 : notFirst K C (.type "str") = true) (b5 : notFirst K C (.type "list") = true) (b6 : notFirst K C (.type "tuple") = true) (b7 : notFirst K C (.type "dict") = true) :
    ∀ t, t ∈ ["NoneType", "bool", "int", "str", "list", "tuple", "dict"] → notFirst K C (.type t) = true := fun t ht => by
  simp only [List.mem_cons, List.not_mem_nil, or_false] at ht
  rcases ht with rfl | rfl | rfl | rfl | rfl | rfl | rfl <;> assumption
theorem dflt_mk {K : Frag} {T : Addr} {tc : Value} {td : Option Addr} {its : Array Value} {n : Nat} {tsl : Array (Option Value)} {dvs : List V} (h : K.lookup T = some ⟨tc, td, .seq its n, tsl⟩) (r : Vals dvs its.toList) (hn : dvs ≠ []) : DflV K (.ref T) dvs :=
  .inr ⟨hn, T, _, its.toList, n, rfl, h, by simp, r⟩
theorem cx_none {P : Program} {w : World} {H : Hp} {s s' : Shared} {e : Value} (z : L2.CX P w [] H s (fun _ _ _ => False) e s') : False := by
  obtain ⟨_, _, _, _, _, _, _, _, _, _, _, _, h⟩ := z
  exact h
end Wm
namespace Wm
open PySem L2 PySem.Spec
open PyProof.Rows hiding St
def rOr (r1 r2 : R2) : R2 := fun x y H Q => r1 x y H Q ∨ r2 x y H Q
def iOr (w1 w2 : TI) : TI := fun σ H R => w1 σ H R ∨ w2 σ H R
section
variable {X : Cx} {D : Ends} {σ : St} {H : Hp} {Q : VK} {K : PySem.W.Frag}
def lcEnd (g : TG) (tt : TT) (te : TE) (vs : List Nat) (σ : St) (Q : VK) : It → Hp → Prop := fun J H1 => ∀ D, H1 D = none → ∃ W : Nat → Nat → Hp → Prop, (∃ m, W 0 m (upd H1 D (.lst []))) ∧ ∀ i m H, W i m H →
  (J.stop i H ∧ Q (.ref D) H) ∨ (J.go i H ∧ ∃ Nx : Hp → Prop, (∀ H', Nx H' → ∃ m', m' < m ∧ W (i + 1) m' H') ∧ ∀ x H', J.yld i H x H' → g x (wipe σ vs) H' fun σ2 H2 => wipe σ2 vs = wipe σ vs ∧ tt σ2 H2 fun b H3 =>
    if b = true then te σ2 H3 fun y H4 => ∃ acc, H4 D = some (.lst acc) ∧ acc.length < sizeLine ∧ Nx (upd H4 D (.lst (acc ++ [y]))) else Nx H3)
theorem r_lc {wi : TI} {g : TG} {tt : TT} {te : TE} {vs : List Nat} (h : wi σ H (lcEnd g tt te vs σ Q)) : tLc wi g tt te vs σ H Q := h
theorem same_seqT {H H' : Hp} {a : Addr} {xs : List V} (e : Same H H') (h : SqT K H a xs) : SqT K H' a xs := by
  rcases h with (h | ⟨o, h⟩) | h
  · exact .inl (.inl (e _ _ h))
  · exact .inl (.inr ⟨o, e _ _ h⟩)
  · exact .inr h
theorem wipe_set1 {i : Nat} {x : Option V} : wipe ((wipe σ [i]).set i x) [i] = wipe σ [i] := by
  show ((σ.set i none).set i x).set i none = σ.set i none
  rw [List.set_set, List.set_set]
theorem take_more {α : Type} : ∀ {l : List α} {i : Nat} {x : α}, l[i]? = some x → l.take (i + 1) = l.take i ++ [x]
  | [], i, x, h => by simp at h
  | a :: l, 0, x, h => by
    cases Option.some.inj h
    rfl
  | a :: l, i + 1, x, h => by
    have ih := take_more (l := l) (i := i) (x := x) h
    show a :: l.take (i + 1) = a :: l.take i ++ [x]
    rw [ih]
    rfl
theorem len_filt {α : Type} {l : List α} {p : α → Bool} {i : Nat} {x : α} (h : l[i]? = some x) : ((l.take i).filter p).length < l.length := by
  have h1 := List.length_filter_le p (l.take i)
  have h2 : i < l.length := by
    rcases Nat.lt_or_ge i l.length with z | z
    · exact z
    · rw [List.getElem?_eq_none z] at h
      cases h
  rw [List.length_take] at h1
  omega
def LcTurn (tt : TT) (te : TE) (i : Nat) (σ : St) (H1 : Hp) (p : V → Bool) (f : V → V) (x : V) : Prop :=
  (∀ (H' : Hp) (R : Bool → Hp → Prop), Same H1 H' → R (p x) H' → tt ((wipe σ [i]).set i (some x)) H' R) ∧ ∀ (H' : Hp) (R : VK), p x = true → Same H1 H' → R (f x) H' → te ((wipe σ [i]).set i (some x)) H' R
theorem lc_turn {tt : TT} {te : TE} {i : Nat} {H1 H' : Hp} {p : V → Bool} {f : V → V} {xs : List V} {x : V} {j : Nat} {D : Addr} (hz : xs.length ≤ sizeLine) (hD : H1 D = none) (hj : xs[j]? = some x) (t : LcTurn tt te i σ H1 p f x) (s : Same H1 H') (e : H' D = some (.lst (((xs.take j).filter p).map f))) :
    gName i x (wipe σ [i]) H' fun σ2 H2 => wipe σ2 [i] = wipe σ [i] ∧ tt σ2 H2 fun b H3 => if b = true then te σ2 H3 fun y H4 => ∃ acc, H4 D = some (.lst acc) ∧ acc.length < sizeLine ∧ (Same H1 (upd H4 D (.lst (acc ++ [y]))) ∧ upd H4 D (.lst (acc ++ [y])) D = some (.lst (((xs.take (j + 1)).filter p).map f))) else Same H1 H3 ∧ H3 D = some (.lst (((xs.take (j + 1)).filter p).map f)) := by
  refine ⟨wipe_set1, t.1 H' _ s ?_⟩
  cases hp : p x with
  | true =>
    refine iteT (t.2 H' _ hp s ⟨_, e, ?_, same_put s hD, ?_⟩)
    · rw [List.length_map]
      exact Nat.lt_of_lt_of_le (len_filt hj) hz
    · rw [upd_same, take_more hj, List.filter_append, List.map_append]
      simp [hp]
  | false =>
    refine iteF ⟨s, ?_⟩
    rw [e, take_more hj, List.filter_append, List.map_append]
    simp [hp]
theorem r_lcL {tt : TT} {te : TE} {i : Nat} {a : Addr} {xs : List V} (p : V → Bool) (f : V → V) (hS : SqL K H a xs) (hz : xs.length ≤ sizeLine) (ht : ∀ (j : Nat) (x : V), xs[j]? = some x → LcTurn tt te i σ H p f x)
    (k : ∀ q H', H q = none → Same H H' → H' q = some (.lst ((xs.filter p).map f)) → Q (.ref q) H') : lcEnd (gName i) tt te [i] σ Q (Itl K a) H := fun D hD =>
  lc_list (K := K) (a := a) (xs := xs) (fun j H' => Same H H' ∧ H' D = some (.lst (((xs.take j).filter p).map f))) ⟨same_new hD, upd_same⟩ (fun j H' _ h => h.1.seq hS) (fun j x H' hj h => lc_turn hz hD hj (ht j x hj) h.1 h.2)
    fun H' h => k D H' hD h.1 (by rw [h.2, List.take_length])
theorem pi_or {tg iter : Expr} {w1 w2 : TI} (h1 : PI X tg iter w1) (h2 : PI X tg iter w2) : PI X tg iter (iOr w1 w2) := ⟨fun pins s σ H R I h => h.elim (h1.run pins s σ H R I) (h2.run pins s σ H R I)⟩
def rAddS : R2 := fun x y H Q => ∃ i j, x = .str i ∧ y = .str j ∧ i.length + j.length ≤ sizeLine ∧ Q (.str (i ++ j)) H
theorem op_addS : OpR X (binaryOp .Add) rAddS := op_add_str
theorem r_addS {a b : Str} (hz : a.length + b.length ≤ sizeLine) (q : Q (.str (a ++ b)) H) : rAddS (.str a) (.str b) H Q := ⟨a, b, rfl, rfl, hz, q⟩
theorem r_extend {p q : Addr} {xs ys : List V} (h : H p = some (.lst xs)) (h' : H q = some (.lst ys)) (hz : xs.length + ys.length ≤ sizeLine) (k : Q .non (upd H p (.lst (xs ++ ys)))) : rExtend (.ref p) [.ref q] H Q := ⟨p, q, xs, ys, rfl, rfl, h, h', hz, k⟩
def tMethT (C : Addr) (m : Str) (sp : Sp) (E : St → XK) (ta : TE) (t : TA) : TE := fun σ H Q => ta σ H fun x H1 => ∃ a dx fs, x = .ref a ∧ H1 a = some (.ins C dx fs) ∧ fs.lookup m = none ∧ t σ H1 fun vs H2 => sp (x :: vs) H2 Q (E σ)
def methE (C : Addr) (m : Str) (R : V → Hp → Prop) : V → Hp → Prop := fun x H1 => ∃ a dx fs, x = .ref a ∧ H1 a = some (.ins C dx fs) ∧ fs.lookup m = none ∧ R x H1
theorem r_meth {C : Addr} {m : Str} {sp : Sp} {dvs : List V} {E : XK} {ta : TE} {t : TA} (h : ta σ H (methE C m fun x H1 => t σ H1 fun vs H2 => sp (x :: (vs ++ dvs)) H2 Q E)) : tMeth C m sp dvs E ta t σ H Q := h
theorem r_methT {C : Addr} {m : Str} {sp : Sp} {E : St → XK} {ta : TE} {t : TA} (h : ta σ H (methE C m fun x H1 => t σ H1 fun vs H2 => sp (x :: vs) H2 Q (E σ))) : tMethT C m sp E ta t σ H Q := h
theorem r_methK {p C dx : Addr} {m : Str} {fs : List (Str × V)} {R : V → Hp → Prop} (h : H p = some (.ins C dx fs)) (e : fs.lookup m = none) (q : R (.ref p) H) : methE C m R (.ref p) H := ⟨p, dx, fs, rfl, h, e, q⟩
end
end Wm
namespace Wm
open PySem L2
def MARKSl : List Str := ["none", "way", "lasting"]
def ACTSl : List Str := ["ring", "skip", "refuse"]
def BYl : List Str := ["same", "equal"]
def KEEPSl : List Str := ["none", "ahead", "behind"]
def FLAGSl : List Str := ["here", "left", "twin here", "twin left"]
def plain5 (m a b k e : Str) : List Str := [m, if m = "none" then "ring" else a, if m = "none" then "same" else b, k, if k = "none" then "same" else e]
def okv (v : V) (cs : List Str) : Bool := match v with
  | .str x => decide (x ∈ cs)
  | _ => false
def badPart (v0 v1 v2 v3 v4 : V) : Option Str :=
  if okv v0 MARKSl = false then some "mark" else if okv v1 ACTSl = false then some "act" else if okv v2 BYl = false then some "by"
  else if okv v3 KEEPSl = false then some "keep" else if okv v4 BYl = false then some "keep_by" else none
def AnyV (H : Hp) : V → Prop
  | .non => True
  | .bl _ => True
  | .int _ => True
  | .str _ => True
  | .ref a => (∃ xs, H a = some (.lst xs)) ∨ (∃ xs, H a = some (.tup xs)) ∨ ∃ kvs, H a = some (.dK kvs)
  | _ => False
theorem AnyV.ty {K : PySem.W.Frag} {H : Hp} {v : V} (h : AnyV H v) : ∃ t, TyX K H v (.type t) ∧ t ∈ ["NoneType", "bool", "int", "str", "list", "tuple", "dict"] ∧ (t = "str" ↔ ∃ x, v = .str x) := by
  cases v with
  | non => exact ⟨_, .base .non, by simp, by simp⟩
  | bl b => exact ⟨_, .base (.bl b), by simp, by simp⟩
  | int i => exact ⟨_, .base (.int i), by simp, by simp⟩
  | str x => exact ⟨_, .base (.str x), by simp, by simp⟩
  | ref a =>
    rcases h with ⟨xs, h⟩ | ⟨xs, h⟩ | ⟨kvs, h⟩
    · exact ⟨_, .base (.lst h), by simp, by simp⟩
    · exact ⟨_, .base (.tup h), by simp, by simp⟩
    · exact ⟨_, .base (.dK h), by simp, by simp⟩
  | _ => exact h.elim
theorem AnyV.isStr {K : PySem.W.Frag} {H : Hp} {v : V} (h : AnyV H v) : ∃ t b, TyX K H v (.type t) ∧ kitB t "str" = some b ∧ (b = true ↔ ∃ x, v = .str x) := by
  obtain ⟨t, h1, h2, h3⟩ := h.ty (K := K)
  simp only [List.mem_cons, List.not_mem_nil, or_false] at h2
  rcases h2 with rfl | rfl | rfl | rfl | rfl | rfl | rfl
  all_goals first
    | exact ⟨_, true, h1, by decide +kernel, by simpa using h3⟩
    | exact ⟨_, false, h1, by decide +kernel, by simpa using h3⟩
def spBit : Sp := fun vs H Q _ => ∃ (p c : Addr) (b : Int), vs = [.ref p, .int b] ∧ PenAt H p c ∧ 0 < b ∧ b < 2 ^ 100 ∧ ∀ r H', PenStep p c H H' → Q (.bl r) H'
theorem r_bit {H : Hp} {Q : VK} {E : XK} {p c : Addr} {b : Int} (h : PenAt H p c) (hb : 0 < b) (hb2 : b < 2 ^ 100) (k : ∀ r H', PenStep p c H H' → Q (.bl r) H') : spBit ([.ref p, .int b] ++ []) H Q E := ⟨p, c, b, rfl, h, hb, hb2, k⟩
def OddV (p : Addr) (H : Hp) (v : V) : Prop := AnyV H v ∧ v ≠ .ref p
def gfs (l : List Str) : List (Str × V) := [("mark", .str (l.getD 0 "")), ("act", .str (l.getD 1 "")), ("by", .str (l.getD 2 "")), ("keep", .str (l.getD 3 "")), ("keep_by", .str (l.getD 4 ""))]
theorem AnyV.same {v : V} {H H' : Hp} (h : AnyV H v) (s : Same H H') : AnyV H' v := by
  cases v with
  | ref a =>
    rcases h with ⟨xs, h⟩ | ⟨xs, h⟩ | ⟨xs, h⟩
    · exact .inl ⟨xs, s _ _ h⟩
    · exact .inr (.inl ⟨xs, s _ _ h⟩)
    · exact .inr (.inr ⟨xs, s _ _ h⟩)
  | _ => exact h
def Any5 (H : Hp) (v0 v1 v2 v3 v4 : V) : Prop := AnyV H v0 ∧ AnyV H v1 ∧ AnyV H v2 ∧ AnyV H v3 ∧ AnyV H v4
theorem Any5.same {v0 v1 v2 v3 v4 : V} {H H' : Hp} (h : Any5 H v0 v1 v2 v3 v4) (s : Same H H') : Any5 H' v0 v1 v2 v3 v4 := ⟨h.1.same s, h.2.1.same s, h.2.2.1.same s, h.2.2.2.1.same s, h.2.2.2.2.same s⟩
def spInitG (CG CB : Addr) : Sp := fun vs H Q E => ∃ (a dx : Addr) (v0 v1 v2 v3 v4 : V), vs = [.ref a, v0, v1, v2, v3, v4] ∧ H a = some (.ins CG dx []) ∧ Any5 H v0 v1 v2 v3 v4 ∧
  (∀ part, badPart v0 v1 v2 v3 v4 = some part → ∀ d H', Same H H' → H d = none → H' d = some (.xd [("part", .str part)]) → E (.ref CB) (some d) H') ∧
  (∀ m t b k e, v0 = .str m → v1 = .str t → v2 = .str b → v3 = .str k → v4 = .str e → m ∈ MARKSl → t ∈ ACTSl → b ∈ BYl → k ∈ KEEPSl → e ∈ BYl → ∀ H', (∀ b o, b ≠ a → H b = some o → H' b = some o) → H' a = some (.ins CG dx (gfs (plain5 m t b k e))) → Q .non H')
theorem okv_str {v : V} {l : List Str} (h : okv v l = true) : ∃ x, v = .str x ∧ x ∈ l := by
  cases v with
  | str x => exact ⟨x, rfl, by simpa [okv] using h⟩
  | _ => cases h
def spEqG (CG : Addr) : Sp := fun vs H Q _ => ∃ (a dx : Addr) (m t b k e : Str) (v : V), vs = [.ref a, v] ∧ H a = some (.ins CG dx (gfs [m, t, b, k, e])) ∧
  ((∃ (a' dx' : Addr) (m' t' b' k' e' : Str), v = .ref a' ∧ H a' = some (.ins CG dx' (gfs [m', t', b', k', e'])) ∧ Q (.bl (decide ([m, t, b, k, e] = [m', t', b', k', e']))) H) ∨ (AnyV H v ∧ Q (.bl false) H))
theorem bad_none {v0 v1 v2 v3 v4 : V} (h0 : okv v0 MARKSl = true) (h1 : okv v1 ACTSl = true) (h2 : okv v2 BYl = true) (h3 : okv v3 KEEPSl = true) (h4 : okv v4 BYl = true) : badPart v0 v1 v2 v3 v4 = none := by
  unfold badPart
  rw [if_neg (by simp [h0]), if_neg (by simp [h1]), if_neg (by simp [h2]), if_neg (by simp [h3]), if_neg (by simp [h4])]
theorem okv_mem {x : Str} {l : List Str} (h : x ∈ l) : okv (.str x) l = true := by simpa [okv] using h
def spChoice (K : PySem.W.Frag) : Sp := fun vs H Q _ => ∃ (v : V) (a : Addr) (ss : List Str), vs = [v, .ref a] ∧ SqT K H a (ss.map V.str) ∧ AnyV H v ∧ Q (.bl (okv v ss)) H
theorem AnyV.step {p c : Addr} {H H' : Hp} {v : V} (h : AnyV H v) (n : v ≠ .ref p) (s : PenStep p c H H') : AnyV H' v := by
  cases v with
  | ref a =>
    have n' : a ≠ p := fun z => n (by rw [z])
    rcases h with ⟨xs, h⟩ | ⟨xs, h⟩ | ⟨xs, h⟩
    · exact .inl ⟨xs, s.keep _ _ n' h⟩
    · exact .inr (.inl ⟨xs, s.keep _ _ n' h⟩)
    · exact .inr (.inr ⟨xs, s.keep _ _ n' h⟩)
  | _ => exact h
theorem OddV.step {p c : Addr} {H H' : Hp} {v : V} (h : OddV p H v) (s : PenStep p c H H') : OddV p H' v := ⟨h.1.step h.2 s, h.2⟩
theorem OddV.same {p : Addr} {H H' : Hp} {v : V} (h : OddV p H v) (s : Same H H') : OddV p H' v := ⟨h.1.same s, h.2⟩
theorem OddV.put {p q : Addr} {H : Hp} {v : V} {xs : List V} (h : OddV p H v) : OddV p (upd H q (.lst xs)) v := by
  refine ⟨?_, h.2⟩
  obtain ⟨h, _⟩ := h
  cases v with
  | ref a =>
    by_cases e : a = q
    · subst e
      exact .inl ⟨xs, upd_same⟩
    · rcases h with ⟨ys, h⟩ | ⟨ys, h⟩ | ⟨ys, h⟩
      · exact .inl ⟨ys, by rw [upd_ne e]; exact h⟩
      · exact .inr (.inl ⟨ys, by rw [upd_ne e]; exact h⟩)
      · exact .inr (.inr ⟨ys, by rw [upd_ne e]; exact h⟩)
  | _ => exact h
theorem sp_initG {CG CB : Addr} {H : Hp} {Q : VK} {E : XK} {a dx : Addr} {m t b k e : Str} (h : H a = some (.ins CG dx [])) (m0 : m ∈ MARKSl) (m1 : t ∈ ACTSl) (m2 : b ∈ BYl) (m3 : k ∈ KEEPSl) (m4 : e ∈ BYl)
    (q : ∀ H', (∀ b o, b ≠ a → H b = some o → H' b = some o) → H' a = some (.ins CG dx (gfs (plain5 m t b k e))) → Q .non H') : spInitG CG CB [.ref a, .str m, .str t, .str b, .str k, .str e] H Q E := by
  refine ⟨a, dx, _, _, _, _, _, rfl, h, ⟨trivial, trivial, trivial, trivial, trivial⟩, fun part hb => ?_, fun m' t' b' k' e' z0 z1 z2 z3 z4 _ _ _ _ _ => ?_⟩
  · rw [bad_none (okv_mem m0) (okv_mem m1) (okv_mem m2) (okv_mem m3) (okv_mem m4)] at hb
    cases hb
  · cases z0
    cases z1
    cases z2
    cases z3
    cases z4
    exact q
def spLaw (K : PySem.W.Frag) : Sp := fun vs H Q _ => ∃ (a : Addr) (ns : List Int), vs = [.ref a] ∧ SqL K H a (ns.map V.int) ∧ ∀ H', Q (.bl true) H'
theorem at_n {xs : List V} {i : Nat} {v : V} (h : xs[i]? = some v) : atI xs (0 + (i : Int)) = some v := by
  rw [Int.zero_add]
  exact atI_nat h
theorem filt_true {α : Type} {l : List α} : l.filter (fun _ => true) = l := List.filter_eq_self.mpr fun _ _ => rfl
def SqA (K : PySem.W.Frag) (H : Hp) (t : Addr) (xs : List V) : Prop := SqL K H t xs ∨ SqT K H t xs
theorem SqA.same {K : PySem.W.Frag} {H H' : Hp} {t : Addr} {xs : List V} (h : SqA K H t xs) (s : Same H H') : SqA K H' t xs := h.imp (fun h => s.seq h) (fun h => same_seqT s h)
def SelfEq (K : PySem.W.Frag) (H : Hp) (v : V) : Prop := (∃ d, Dp K H v d ∧ d.plain = true ∧ d.depth ≤ 64) ∨ ∃ a ks, v = .ref a ∧ H a = some (.dK ks) ∧ ∀ p ∈ ks, valV ks p.1 = some p.2 ∧ flatB p.2 = true
mutual
theorem dp_same {K : PySem.W.Frag} {H H' : Hp} (s : Same H H') : ∀ {v : V} {d : PyData}, Dp K H v d → Dp K H' v d
  | _, _, .non => .non
  | _, _, .bl b => .bl b
  | _, _, .int i => .int i
  | _, _, .str x => .str x
  | _, _, .lst h k => .lst (s.seq h) (dps_same s k)
  | _, _, .tup h k => .tup (same_seqT s h) (dps_same s k)
theorem dps_same {K : PySem.W.Frag} {H H' : Hp} (s : Same H H') : ∀ {vs : List V} {ds : List PyData}, DpAll K H vs ds → DpAll K H' vs ds
  | _, _, .nil => .nil
  | _, _, .cons h k => .cons (dp_same s h) (dps_same s k)
end
theorem SelfEq.same {K : PySem.W.Frag} {H H' : Hp} {v : V} (h : SelfEq K H v) (s : Same H H') : SelfEq K H' v := by
  rcases h with ⟨d, h, a, b⟩ | ⟨a, ks, e, h, k⟩
  · exact .inl ⟨d, dp_same s h, a, b⟩
  · exact .inr ⟨a, ks, e, s _ _ h, k⟩
theorem SelfEq.eq {K : PySem.W.Frag} {H H' : Hp} {v : V} {Q : VK} (h : SelfEq K H v) (s : Same H H') (q : Q (.bl true) H') : rOr (rEqP K) (rEqV K) v v H' Q := by
  rcases h.same s with ⟨d, h, a, b⟩ | ⟨a, ks, rfl, h, k⟩
  · refine .inl ⟨d, d, h, h, a, a, b, ?_⟩
    rw [SeqAt.eqv_refl_plain d a]
    exact q
  · exact .inr ⟨1, by decide, .inr ⟨a, a, ks, ks, rfl, rfl, h, h, rfl, fun p hp => ⟨p.2, (k p hp).1, .inl ⟨rfl, (k p hp).2⟩⟩⟩, q⟩
end Wm
namespace Wm
open PySem PySem.SeqAt PyProof.Rows PySem.Spec PySem.Calls
section
variable {A : Around} {s : Shared}
end
section
open L2
variable {X : Cx} {pins : List (Addr × Obj)} {σ : L2.St} {H : Hp} {s : Shared}
end
section
open L2
variable {D : Ends} {σ : L2.St} {H : Hp} {Q : VK} {K : PySem.W.Frag}
def slEnd (r : V → Option Int → Option Int → Hp → VK → Prop) (Q : VK) (x : V) (lo : Option Int) : Option Int → Hp → Prop := fun hi H3 => r x lo hi H3 Q
theorem r_slice {r : V → Option Int → Option Int → Hp → VK → Prop} {te : TE} {tl th : TO} (h : te σ H fun x H1 => tl σ H1 fun lo H2 => th σ H2 (slEnd r Q x lo)) : tSl r te tl th σ H Q := h
theorem r_nopart {R : Option Int → Hp → Prop} (h : R none H) : tNoPart σ H R := h
theorem r_part {te : TE} {R : Option Int → Hp → Prop} (h : te σ H fun x H1 => ∃ i, x = .int i ∧ R (some i) H1) : tPart te σ H R := h
theorem r_partI {i : Int} {R : Int → Prop} (q : R i) : ∃ j, V.int i = .int j ∧ R j := ⟨i, rfl, q⟩
theorem r_slL {p : Addr} {xs : List V} {lo hi : Option Int} (h : H p = some (.lst xs)) (k : ∀ q H', H q = none → Same H H' → H' q = some (.lst (cutV xs lo hi)) → Q (.ref q) H') : slEnd (rSlL K) Q (.ref p) lo hi H := ⟨p, xs, rfl, SqL.of h, fun q n => k q _ n (same_new n) upd_same⟩
structure GoodV (K : PySem.W.Frag) (p fr : Addr) (H : Hp) (v : V) : Prop where
  odd : OddV p H v
  sf : ∃ G : Hp, SelfEq K G v ∧ ∀ b o, G b = some o → b ≠ p ∧ b ≠ fr ∧ H b = some o
  kind : okv v FLAGSl = false ∨ ∃ x, v = .str x ∧ x ∈ (["here", "left", "twin left"] : List Str)
theorem GoodV.self {p fr : Addr} {v : V} (h : GoodV K p fr H v) : SelfEq K H v := by
  obtain ⟨G, a, b⟩ := h.sf
  exact a.same fun c o e => (b c o e).2.2
theorem GoodV.step {p c fr : Addr} {H' : Hp} {v : V} (h : GoodV K p fr H v) (s : PenStep p c H H') : GoodV K p fr H' v := by
  obtain ⟨G, a, b⟩ := h.sf
  exact ⟨h.odd.step s, ⟨G, a, fun c o e => ⟨(b c o e).1, (b c o e).2.1, s.keep c o (b c o e).1 (b c o e).2.2⟩⟩, h.kind⟩
theorem GoodV.same {p fr : Addr} {H' : Hp} {v : V} (h : GoodV K p fr H v) (s : Same H H') : GoodV K p fr H' v := by
  obtain ⟨G, a, b⟩ := h.sf
  exact ⟨h.odd.same s, ⟨G, a, fun c o e => ⟨(b c o e).1, (b c o e).2.1, s c o (b c o e).2.2⟩⟩, h.kind⟩
theorem GoodV.put {p fr : Addr} {v : V} {xs : List V} (h : GoodV K p fr H v) : GoodV K p fr (upd H fr (.lst xs)) v := by
  obtain ⟨G, a, b⟩ := h.sf
  exact ⟨h.odd.put, ⟨G, a, fun c o e => ⟨(b c o e).1, (b c o e).2.1, by rw [upd_ne (b c o e).2.1]; exact (b c o e).2.2⟩⟩, h.kind⟩
end
section
open L2
variable {H : Hp} {Q : VK} {K : PySem.W.Frag}
end
end Wm
namespace PySem.W
open PySem PySem.Spec PySem.Calls PyProof.Rows
section
variable {prog : Program} {w : World} {A : Around} {E : Value → Shared → Prop} {s : Shared} {K : Frag} {x D : Addr} {ox : Obj} {od : Option Obj}
end
end PySem.W
namespace L2
open PySem PySem.Spec PyProof.Rows
def ErO (C : Addr) (d : Option Addr) (a : Addr) : HO := .ext fun h => ∃ (oe : Obj) (vs : Array Value), h.get? a = some oe ∧ Zc (.ref C) d oe ∧ oe.data = .fields vs
section
variable {X : Cx} {C : Addr} {qual : Str} {fs : List Str}
def tErV (C : Addr) (fs : List Str) (ta : TA) : TE := fun σ H Q => ta σ H fun vs H1 => vs.length = fs.length ∧ vs.length ≤ 1000 ∧ (fs = [] → ∀ a, H1 a = none → Q (.ref a) (upd H1 a (ErO C none a))) ∧
  (fs ≠ [] → ∀ a d, H1 a = none → H1 d = none → d ≠ a → Q (.ref a) (upd (upd H1 d (.xd (fs.zip vs))) a (ErO C (some d) a)))
section
variable {x : Str} {p pos : Pos} {e : Expr} {es : List Expr} {ta : TA} {k : Nat}
end
def tErF (K : PySem.W.Frag) (f : Str) (te : TE) : TE := fun σ H Q => te σ H fun x H1 => ∃ (a C dd : Addr) (fs : List (Str × V)) (v : V), x = .ref a ∧ H1 a = some (ErO C (some dd) a) ∧ XfC K C ∧ PySem.W.findIn K (.ref C) f = some none ∧ H1 dd = some (.xd fs) ∧ fs.lookup f = some v ∧ Q v H1
end
end L2
namespace Wm
open PySem L2
section
variable {D : Ends} {σ : L2.St} {H : Hp} {Q : VK} {K : PySem.W.Frag}
def ervEnd (C : Addr) (fs : List Str) (Q : VK) : List V → Hp → Prop := fun vs H1 => vs.length = fs.length ∧ vs.length ≤ 1000 ∧ (fs = [] → ∀ a, H1 a = none → Q (.ref a) (upd H1 a (ErO C none a))) ∧
  (fs ≠ [] → ∀ a d, H1 a = none → H1 d = none → d ≠ a → Q (.ref a) (upd (upd H1 d (.xd (fs.zip vs))) a (ErO C (some d) a)))
theorem r_erV {C : Addr} {fs : List Str} {ta : TA} (h : ta σ H (ervEnd C fs Q)) : tErV C fs ta σ H Q := h
theorem r_erVE {C : Addr} {fs : List Str} {vs : List V} (l : vs.length = fs.length) (l2 : vs.length ≤ 1000) (hn : fs ≠ []) (k : ∀ a d H', H a = none → Same H H' → H' a = some (ErO C (some d) a) → H' d = some (.xd (fs.zip vs)) → Q (.ref a) H') : ervEnd C fs Q vs H :=
  ⟨l, l2, fun z => absurd z hn, fun _ a d na nd ne => k a d _ na (same_put (same_new nd) na) upd_same (by rw [upd_ne ne]; exact upd_same)⟩
theorem r_erVE0 {C : Addr} (k : ∀ a H', H a = none → Same H H' → H' a = some (ErO C none a) → Q (.ref a) H') : ervEnd C [] Q [] H := ⟨rfl, Nat.zero_le _, fun _ a na => k a _ na (same_new na) upd_same, fun z => absurd rfl z⟩
def erfE (K : PySem.W.Frag) (f : Str) (Q : VK) : VK := fun x H1 => ∃ (a C dd : Addr) (fs : List (Str × V)) (v : V), x = .ref a ∧ H1 a = some (ErO C (some dd) a) ∧ XfC K C ∧ PySem.W.findIn K (.ref C) f = some none ∧ H1 dd = some (.xd fs) ∧ fs.lookup f = some v ∧ Q v H1
theorem r_erF {f : Str} {te : TE} (h : te σ H (erfE K f Q)) : tErF K f te σ H Q := h
theorem r_erFK {a C dd : Addr} {fs : List (Str × V)} {f : Str} {v : V} (h : H a = some (ErO C (some dd) a)) (T : XfC K C) (n : PySem.W.findIn K (.ref C) f = some none) (h' : H dd = some (.xd fs)) (e : fs.lookup f = some v) (q : Q v H) : erfE K f Q (.ref a) H := ⟨a, C, dd, fs, v, rfl, h, T, n, h', e, q⟩
def AnyL (H : Hp) : V → Prop
  | .non => True
  | .bl _ => True
  | .int _ => True
  | .str _ => True
  | .ref a => (∃ xs, H a = some (.lst xs)) ∨ ∃ xs, H a = some (.tup xs)
  | _ => False
structure PlainV (K : PySem.W.Frag) (H : Hp) (v : V) : Prop where
  dat : ∃ d, Dp K H v d ∧ d.plain = true ∧ d.depth ≤ 64
  any : AnyL H v
theorem AnyL.ty {v : V} (h : AnyL H v) : ∃ t, TyX K H v (.type t) ∧ t ∈ ["NoneType", "bool", "int", "str", "list", "tuple"] := by
  cases v with
  | non => exact ⟨_, .base .non, by simp⟩
  | bl b => exact ⟨_, .base (.bl b), by simp⟩
  | int i => exact ⟨_, .base (.int i), by simp⟩
  | str x => exact ⟨_, .base (.str x), by simp⟩
  | ref a =>
    rcases h with ⟨xs, h⟩ | ⟨xs, h⟩
    · exact ⟨_, .base (.lst h), by simp⟩
    · exact ⟨_, .base (.tup h), by simp⟩
  | _ => exact h.elim
theorem PlainV.same {H' : Hp} {v : V} (h : PlainV K H v) (s : Same H H') : PlainV K H' v := by
  obtain ⟨⟨d, a, b⟩, c⟩ := h
  refine ⟨⟨d, dp_same s a, b⟩, ?_⟩
  cases v with
  | ref a =>
    rcases c with ⟨xs, c⟩ | ⟨xs, c⟩
    · exact .inl ⟨xs, s _ _ c⟩
    · exact .inr ⟨xs, s _ _ c⟩
  | _ => exact c
theorem seqL_step {p c a : Addr} {H' : Hp} {xs : List V} (hp : PenAt H p c) (s : PenStep p c H H') (h : SqL K H a xs) : SqL K H' a xs := by
  rcases h with (h | ⟨o, h⟩) | h
  · exact .inl (.inl (s.at hp h rfl))
  · exact .inl (.inr ⟨o, s.at hp h rfl⟩)
  · exact .inr h
theorem seqT_step {p c a : Addr} {H' : Hp} {xs : List V} (hp : PenAt H p c) (s : PenStep p c H H') (h : SqT K H a xs) : SqT K H' a xs := by
  rcases h with (h | ⟨o, h⟩) | h
  · exact .inl (.inl (s.at hp h rfl))
  · exact .inl (.inr ⟨o, s.at hp h rfl⟩)
  · exact .inr h
mutual
theorem dp_step {p c : Addr} {H' : Hp} (hp : PenAt H p c) (s : PenStep p c H H') : ∀ {v : V} {d : PyData}, Dp K H v d → Dp K H' v d
  | _, _, .non => .non
  | _, _, .bl b => .bl b
  | _, _, .int i => .int i
  | _, _, .str x => .str x
  | _, _, .lst h k => .lst (seqL_step hp s h) (dps_step hp s k)
  | _, _, .tup h k => .tup (seqT_step hp s h) (dps_step hp s k)
theorem dps_step {p c : Addr} {H' : Hp} (hp : PenAt H p c) (s : PenStep p c H H') : ∀ {vs : List V} {ds : List PyData}, DpAll K H vs ds → DpAll K H' vs ds
  | _, _, .nil => .nil
  | _, _, .cons h k => .cons (dp_step hp s h) (dps_step hp s k)
end
theorem PlainV.step {p c : Addr} {H' : Hp} {v : V} (h : PlainV K H v) (hp : PenAt H p c) (s : PenStep p c H H') : PlainV K H' v := by
  obtain ⟨⟨d, a, b⟩, e⟩ := h
  refine ⟨⟨d, dp_step hp s a, b⟩, ?_⟩
  cases v with
  | ref a =>
    rcases e with ⟨xs, e⟩ | ⟨xs, e⟩
    · exact .inl ⟨xs, s.at hp e rfl⟩
    · exact .inr ⟨xs, s.at hp e rfl⟩
  | _ => exact e
end
theorem r_cat {H : Hp} {Q : VK} {p q : Addr} {xs ys : List V} (h : H p = some (.lst xs)) (h' : H q = some (.lst ys)) (hz : xs.length + ys.length ≤ sizeLine) (k : ∀ r H', H r = none → Same H H' → H' r = some (.lst (xs ++ ys)) → Q (.ref r) H') : rCat (.ref p) (.ref q) H Q := ⟨p, q, xs, ys, rfl, rfl, h, h', hz, fun r n => k r _ n (same_new n) upd_same⟩
end Wm
namespace Wm
open PySem L2 PySem.Spec
open PyProof.Rows hiding St
def rSplit : V → List V → Hp → VK → Prop := fun x xs H Q => ∃ a b, x = .str a ∧ xs = [.str b] ∧ (b.length == 0) = false ∧ a.length + 2 ≤ sizeLine ∧ rNewStrs (Txt.split a b) H Q
def rJoin (K : PySem.W.Frag) : V → List V → Hp → VK → Prop := fun x xs H Q => ∃ a p, ∃ ys : List Str, x = .str a ∧ xs = [.ref p] ∧ (SqL K H p (ys.map V.str) ∨ SqT K H p (ys.map V.str)) ∧ (ys.map (·.length)).sum + ys.length * a.length ≤ 16777216 ∧ Q (.str (Txt.join a ys)) H
theorem mtJoin {X : Cx} : MtR X "str.join" (rJoin X.K) := mt_join
section
variable {D : Ends} {σ : St} {H : Hp} {Q : VK} {K : PySem.W.Frag}
theorem r_split {a b : Str} (hb : (b.length == 0) = false) (hz : a.length + 2 ≤ sizeLine) (k : ∀ p H', H p = none → Same H H' → H' p = some (.lst ((Txt.split a b).map V.str)) → Q (.ref p) H') : rSplit (.str a) [.str b] H Q :=
  ⟨a, b, rfl, rfl, hb, hz, fun p n => k p _ n (same_new n) upd_same⟩
theorem r_join {a : Str} {p : Addr} {xs : List V} (ys : List Str) (h : H p = some (.lst xs)) (e : xs = ys.map V.str) (hz : (ys.map (·.length)).sum + ys.length * a.length ≤ 16777216) (q : Q (.str (Txt.join a ys)) H) : rJoin K (.str a) [.ref p] H Q :=
  ⟨a, p, ys, rfl, rfl, .inl (e ▸ SqL.of h), hz, q⟩
theorem r_tyS {x : Str} {R : Prop} (q : R) : tyV K "str" (.str x) H ∧ R := ⟨rfl, q⟩
theorem r_slT {p : Addr} {xs : List V} {lo hi : Option Int} (h : SqT K H p xs) (hw : ¬ (HT.sIx xs.length 0 lo = 0 ∧ HT.sIx xs.length xs.length hi = xs.length)) (k : ∀ q H', H q = none → Same H H' → H' q = some (.tup (cutV xs lo hi)) → Q (.ref q) H') : slEnd (rSlT K) Q (.ref p) lo hi H := ⟨p, xs, rfl, h, hw, fun q n => k q _ n (same_new n) upd_same⟩
theorem r_slS {z : Str} {lo hi : Option Int} (hz : z.length ≤ sizeLine) (q : Q (.str (cutS z lo hi)) H) : slEnd rSlS Q (.str z) lo hi H := ⟨z, rfl, hz, q⟩
def fmtEnd (Q : VK) : VK := fun x H1 => (∃ y : Str, x = .str y ∧ y.length ≤ sizeLine ∧ Q (.str y) H1) ∨ ∃ i : Int, x = .int i ∧ i.natAbs.log2 < 1920 ∧ Q (.str (toString i)) H1
theorem r_fmt {te : TE} (h : te σ H (fmtEnd Q)) : tFmt te σ H Q := h
theorem r_fmtS {y : Str} (hz : y.length ≤ sizeLine) (q : Q (.str y) H) : fmtEnd Q (.str y) H := .inl ⟨y, rfl, hz, q⟩
def tJoin (ts : List TE) : TE := fun σ H Q => tJs ts Str.empty σ H fun out H1 => Q (.str out) H1
theorem pe_joinedD {X : Cx} {v1 v2 : Expr} {rest : List Expr} {ts : List TE} {pos : Pos} (h : PJ X (v1 :: v2 :: rest) ts) : PE X (.JoinedStr (v1 :: v2 :: rest) pos) (tJoin ts) := pe_joined h
def jsOut (Q : VK) : Str → Hp → Prop := fun out H1 => Q (.str out) H1
def jsEnd (ts : List TE) (acc : Str) (σ : St) (R : Str → Hp → Prop) : VK := fun x H1 => ∃ y : Str, x = .str y ∧ (acc ++ y).length ≤ sizeLine ∧ tJs ts (acc ++ y) σ H1 R
theorem r_joinF {ts : List TE} (h : tJs ts Str.empty σ H (jsOut Q)) : tJoin ts σ H Q := h
theorem r_js0 {acc : Str} (q : Q (.str acc) H) : tJs [] acc σ H (jsOut Q) := q
theorem r_jsC {t : TE} {ts : List TE} {acc : Str} {R : Str → Hp → Prop} (h : t σ H (jsEnd ts acc σ R)) : tJs (t :: ts) acc σ H R := h
theorem r_jsE {ts : List TE} {acc y : Str} {R : Str → Hp → Prop} (hz : (acc ++ y).length ≤ sizeLine) (h : tJs ts (acc ++ y) σ H R) : jsEnd ts acc σ R (.str y) H := ⟨y, rfl, hz, h⟩
def strBk (Q : VK) : VK := fun v H' => (∃ y, v = .str y) ∧ Q v H'
def rStrOwn (C : Addr) (sp : Sp) (E : XK) : List V → Hp → VK → Prop := fun xs H Q => ∃ a dx fs, xs = [.ref a] ∧ H a = some (.ins C dx fs) ∧ sp [.ref a] H (strBk Q) E
theorem c_strOwn {X : Cx} {CX : CXT} {C f : Addr} {fd : FuncData} {ps : List Str} {k : Nat} {sp : Sp} {E : XK} (F : FnOk X.prog X.w X.K X.mg X.base CX k f fd ps sp) (hr : Room (k + 2) X.A) (hm : Meth X.K C "__str__" f) (hb : Binds X.K fd ps []) (hx : Passes CX X E) : CallR X (.type "str") (rStrOwn C sp E) := by
  intro pins s σ H xs us Q I r h
  obtain ⟨a, dx, fs, rfl, ha, q⟩ := h
  obtain ⟨u, rfl, ru⟩ := vals1 r
  cases ru
  obtain ⟨mA, J, _⟩ := ins_get I.hok ha
  obtain ⟨od, J, _⟩ := J.look
  have hr2 : Room k X.A.in1.in1 := (hr.in1).in1
  refine PySem.W.kso_call hr2.units0 I.kIn J hm.at_ hm.fn ?_
  have hl : [Value.ref a].length = ps.length := F.len _ _ _ _ q
  refine wpAny_call (codeAny_mono (F.run X.A.in1.in1 X.stack s H ⟨[.ref a], []⟩ [.ref a] [.ref a] (strBk Q) E hr2 I.env0.in1.in1 (by have := hb s [.ref a] I.kIn (by rw [List.append_nil]; exact hl); rwa [List.append_nil] at this) (.cons rfl .nil) q) fun r s' hq => ?_)
  cases r with
  | error e => exact hx pins σ H s e s' I hq
  | ok fl =>
    cases fl with
    | ret u =>
      obtain ⟨v, H', I', rv, ⟨y, rfl⟩, q'⟩ := I.after hq
      obtain ⟨t, rfl⟩ := rv
      exact ⟨V.str y, H', I', ⟨t, rfl⟩, q'⟩
    | next => exact False.elim hq
    | brk => exact False.elim hq
    | cont => exact False.elim hq
theorem r_strOwn {a C dx : Addr} {fs : List (Str × V)} {sp : Sp} {E : XK} (h : H a = some (.ins C dx fs)) (q : sp [.ref a] H (strBk Q) E) : rStrOwn C sp E [.ref a] H Q := ⟨a, dx, fs, rfl, h, q⟩
theorem r_strBk {y : Str} (q : Q (.str y) H) : strBk Q (.str y) H := ⟨⟨y, rfl⟩, q⟩
def hid (D : Addr) (H : Hp) : Hp := fun b => if b = D then none else H b
theorem hid_at {D b : Addr} {o : HO} (n : b ≠ D) (e : H b = some o) : hid D H b = some o := by
  unfold hid
  rw [if_neg n]
  exact e
theorem hid_get {D b : Addr} {o : HO} (e : hid D H b = some o) : b ≠ D ∧ H b = some o := by
  unfold hid at e
  by_cases h : b = D
  · rw [if_pos h] at e
    cases e
  · rw [if_neg h] at e
    exact ⟨h, e⟩
inductive All2 {α β : Type} (R : α → β → Prop) : List α → List β → Prop
  | nil : All2 R [] []
  | cons {a : α} {b : β} {l : List α} {m : List β} (h : R a b) (t : All2 R l m) : All2 R (a :: l) (b :: m)
theorem All2.mono {α β : Type} {R S : α → β → Prop} (hm : ∀ a b, R a b → S a b) : ∀ {l : List α} {m : List β}, All2 R l m → All2 S l m
  | _, _, .nil => .nil
  | _, _, .cons h t => .cons (hm _ _ h) (t.mono hm)
theorem All2.snoc {α β : Type} {R : α → β → Prop} {a : α} {b : β} (h : R a b) : ∀ {l : List α} {m : List β}, All2 R l m → All2 R (l ++ [a]) (m ++ [b])
  | _, _, .nil => .cons h .nil
  | _, _, .cons h' t => .cons h' (t.snoc h)
theorem All2.len {α β : Type} {R : α → β → Prop} : ∀ {l : List α} {m : List β}, All2 R l m → l.length = m.length
  | _, _, .nil => rfl
  | _, _, .cons _ t => by simp [t.len]
theorem All2.left {α β : Type} {R : α → β → Prop} : ∀ {l : List α} {m : List β} {i : Nat} {a : α}, All2 R l m → l[i]? = some a → ∃ b, m[i]? = some b ∧ R a b
  | _, _, i, a, .nil, h => by simp at h
  | _, _, 0, a, .cons h t, e => by
    cases e
    exact ⟨_, rfl, h⟩
  | _, _, i + 1, a, .cons h t, e => t.left (i := i) e
theorem All2.right {α β : Type} {R : α → β → Prop} : ∀ {l : List α} {m : List β} {i : Nat} {b : β}, All2 R l m → m[i]? = some b → ∃ a, l[i]? = some a ∧ R a b
  | _, _, i, a, .nil, h => by simp at h
  | _, _, 0, a, .cons h t, e => by
    cases e
    exact ⟨_, rfl, h⟩
  | _, _, i + 1, a, .cons h t, e => t.right (i := i) e
end
section
open ClX
variable {X : Cx} {CX : CXT} {k : Nat} {C p g : Addr} {mc : Value} {sp : Sp} {o e : Expr} {es : List Expr} {m : Str} {pos apos : Pos} {ta : TE} {t : TA} {pl : Sem Bool}
def tCMethT (C : Addr) (sp : Sp) (E : St → XK) (ta : TE) (t : TA) : TE := fun σ H Q => ta σ H fun x H1 => x = .ref C ∧ t σ H1 fun vs H2 => sp (.ref C :: vs) H2 Q (E σ)
theorem r_cmeth {σ : St} {H : Hp} {Q : VK} {E : XK} (h : ta σ H fun x H1 => x = .ref C ∧ t σ H1 fun vs H2 => sp (.ref C :: vs) H2 Q E) : tCMeth C sp E ta t σ H Q := h
theorem r_cmethT {σ : St} {H : Hp} {Q : VK} {E : St → XK} (h : ta σ H fun x H1 => x = .ref C ∧ t σ H1 fun vs H2 => sp (.ref C :: vs) H2 Q (E σ)) : tCMethT C sp E ta t σ H Q := h
theorem r_cmethK {C : Addr} {R : Prop} (q : R) : V.ref C = .ref C ∧ R := ⟨rfl, q⟩
end
section
variable {X : Cx} {CX : CXT} {k n : Nat} {f C : Addr} {fd : FuncData} {ps ks : List Str} {sp : Sp} {E : XK} {x : Str} {p pos : Pos} {e : Expr} {es : List Expr} {kws : List Keyword} {t tk : TA} {g : List Value → List Value → List Value} {gV : List V → List V → List V}
def tMakeKL (i : Nat) (C : Addr) (n m : Nat) (sp : Sp) (gV : List V → List V → List V) (E : XK) (t tk : TA) : TE := fun σ H Q => σ[i]? = some (some (.ref C)) ∧ tMakeK C n m sp gV E t tk σ H Q
theorem r_makeKL {σ : St} {H : Hp} {Q : VK} {i m : Nat} (hs : σ[i]? = some (some (.ref C))) (h : tMakeK C n m sp gV E t tk σ H Q) : tMakeKL i C n m sp gV E t tk σ H Q := ⟨hs, h⟩
end
theorem r_lenS {H : Hp} {Q : VK} {z : Str} (h : z.length ≤ sizeLine) (q : Q (.int z.length) H) : rLenS [.str z] H Q := ⟨z, rfl, h, q⟩
def rIsNn : R2 := fun x y H Q => y = .non ∧ Q (.bl (decide (x = .non))) H
def rNotNn : R2 := fun x y H Q => y = .non ∧ Q (.bl (!decide (x = .non))) H
theorem op_isNn {X : Cx} : OpR X (compareOp .Is) rIsNn := op_isN
theorem op_notNn {X : Cx} : OpR X (compareOp .IsNot) rNotNn := op_notN
section
variable {H : Hp} {Q : VK}
theorem r_isNn {x : V} (q : Q (.bl (decide (x = .non))) H) : rIsNn x .non H Q := ⟨rfl, q⟩
theorem r_notNn {x : V} (q : Q (.bl (!decide (x = .non))) H) : rNotNn x .non H Q := ⟨rfl, q⟩
end
theorem iteT' {b : Bool} {A B : Prop} (e : b = true) (h : A) : if b = true then A else B := by
  rw [if_pos e]
  exact h
theorem iteF' {b : Bool} {A B : Prop} (e : b = false) (h : B) : if b = true then A else B := by
  rw [e]
  exact iteF h
theorem str_ix {ss : List Str} {j : Nat} {x : V} (h : (ss.map V.str)[j]? = some x) : ∃ y, x = .str y ∧ ss[j]? = some y := by
  rw [List.getElem?_map] at h
  cases e : ss[j]? with
  | none =>
    rw [e] at h
    cases h
  | some u =>
    rw [e] at h
    exact ⟨u, (Option.some.inj h).symm, rfl⟩
theorem take_flat {α β : Type} {l : List α} {f : α → List β} {i : Nat} {x : α} (h : l[i]? = some x) : (l.take (i + 1)).flatMap f = (l.take i).flatMap f ++ f x := by
  rw [take_more h, List.flatMap_append]
  simp
theorem take_fold {α β : Type} {l : List α} {f : β → α → β} {b : β} {i : Nat} {x : α} (h : l[i]? = some x) : (l.take (i + 1)).foldl f b = f ((l.take i).foldl f b) x := by
  rw [take_more h, List.foldl_append]
  rfl
def liftS (g : Str → Str) : V → V
  | .str d => .str (g d)
  | v => v
theorem lift_map {g : Str → Str} {ss : List Str} : ((ss.map V.str).filter (fun _ => true)).map (liftS g) = (ss.map g).map V.str := by
  rw [filt_true, List.map_map, List.map_map]
  rfl
end Wm
namespace Wm
open PySem PySem.Spec PyProof.Rows
def nubStep (σ : List Str) (v : Str) : List Str := if σ.any (· == v) = true then σ else σ ++ [v]
def nubS (xs : List Str) : List Str := xs.foldl nubStep []
theorem nub_take {xs : List Str} {i : Nat} {v : Str} (h : xs[i]? = some v) : nubS (xs.take (i + 1)) = nubStep (nubS (xs.take i)) v := take_fold h
theorem nubStep_any (σ : List Str) (v k : Str) : (nubStep σ v).any (· == k) = (σ.any (· == k) || decide (k = v)) := by
  unfold nubStep
  by_cases h : σ.any (· == v) = true
  · rw [if_pos h]
    by_cases e : k = v
    · subst e
      simp [h]
    · simp [e]
  · rw [if_neg h, List.any_append]
    by_cases e : k = v
    · subst e
      simp
    · have hb : ¬ v = k := fun z => e z.symm
      simp [hb, e]
theorem nubStep_len (σ : List Str) (v : Str) : (nubStep σ v).length = if σ.any (· == v) = true then σ.length else σ.length + 1 := by
  unfold nubStep
  split <;> simp
theorem nub_le (xs : List Str) : ∀ i, (nubS (xs.take i)).length ≤ i
  | 0 => by simp [nubS]
  | i + 1 => by
    have ih := nub_le xs i
    cases h : xs[i]? with
    | none =>
      have e : xs.take (i + 1) = xs.take i := by
        rw [List.take_of_length_le (Nat.le_succ_of_le (List.getElem?_eq_none_iff.mp h)), List.take_of_length_le (List.getElem?_eq_none_iff.mp h)]
      rw [e]
      omega
    | some v =>
      rw [nub_take h, nubStep_len]
      split <;> omega
section
variable {prog : Program} {w : World} {A : Around} {Rz : Result → Shared → Prop} {it : Addr} {fp wr : List Addr} {G : Array GenState → Array GenState → Prop} {n : Nat} {Pv : Nat → Value → Prop} {St : Nat → Shared → Prop}
abbrev SetNub (prog : Program) (w : World) (h : Heap) (S : Addr) (xs : List Str) (i : Nat) : Prop := h.SetOf (PySem.strKind prog w) S (fun k => (nubS (xs.take i)).any (· == k)) (nubS (xs.take i)).length
theorem setNub_keep {h h' : Heap} {S : Addr} {xs : List Str} {i : Nat} (z : SetNub prog w h S xs i) (k : ∀ o, h.get? S = some o → h'.get? S = some o) : SetNub prog w h' S xs i := by
  obtain ⟨o, es, ep, tb, ho, more⟩ := z
  exact ⟨o, es, ep, tb, k o ho, more⟩
theorem nub_loop (W : WalksS prog w A.in1 it fp wr G n Pv St) (S : Addr) (hS : S ∉ fp) (xs : List Str) (hz : xs.length = n) (hn : n + 1 < scanBound) (hv : ∀ i v, Pv i v → ∃ x t, xs[i]? = some x ∧ v = .str x t) (d : Nat) :
    ∀ (i : Nat) (s : Shared), n - i = d → i ≤ n → St i s → SetNub prog w s.heap S xs i → (∀ s', Moved (S :: wr) G s s' → SetNub prog w s'.heap S xs n → Rz (.ok (.ret .none)) s') →
      codeAny (model prog w) A (.builtin "set.update.loop" ⟨[.ref S, .ref it], []⟩) Rz s := by
  have nw : S ∉ wr := fun z => hS (W.sub _ z)
  have up : ∀ b ∈ wr, b ∈ S :: wr := fun b z => List.mem_cons_of_mem _ z
  induction d with
  | zero =>
    intro i s hd hi hst hN fin
    obtain rfl : i = n := Nat.le_antisymm hi (Nat.sub_eq_zero_iff_le.mp hd)
    refine codeAny_builtin PyProof.Rows.F.entry_set_update_loop (by rw [Around.under_plainId PyProof.Rows.F.plain_set_update_loop _]; show wpAny _ A.in1 (pyNext (.ref it) >>= _) _ _ s; exact wpAny_bind (W.done s _ _ hst fun s' mv => by show wpAny _ A.in1 (ret Value.none) _ _ s'; exact wpAny_pure (fin s' (mv.mono up) (setNub_keep hN fun o z => mv.heap S o nw z))))
  | succ d ih =>
    intro i s hd hi hst hN fin
    have lt : i < n := Nat.lt_of_sub_ne_zero (by rw [hd]; exact Nat.succ_ne_zero d)
    (refine codeAny_builtin PyProof.Rows.F.entry_set_update_loop ?_; rw [Around.under_plainId PyProof.Rows.F.plain_set_update_loop _]; show wpAny _ A.in1 (pyNext (.ref it) >>= _) _ _ s; refine wpAny_bind (W.item i s _ _ lt hst fun v s1 hP hst1 mv => ?_))
    obtain ⟨x, t, hx, rfl⟩ := hv i v hP
    have hN1 : SetNub prog w s1.heap S xs i := setNub_keep hN fun o z => mv.heap S o nw z
    have room : (nubS (xs.take i)).length + 1 < scanBound := by
      have := nub_le xs i
      omega
    show wpAny _ A.in1 (holding [Value.str x t] (setAdd S (.str x t)) >>= _) _ _ s1
    (refine wpAny_bind (wpAny_holding ?_); unfold setAdd; refine wpAny_holding (wpAny_bind ((PySem.strKind prog w).pyHash (k := x) (strKind_is _ _ _ _) (wpAny_setAddHashed_of (knd := PySem.strKind prog w) (s := { s1 with toks := s1.toks + 1 }) (strKind_is _ _ _ _) rfl hN1 room fun h' sb hN2 => ?_))))
    have hN3 : SetNub prog w h' S xs (i + 1) := SetOf_congr hN2 (fun k => by rw [nub_take hx, nubStep_any]) (by rw [nub_take hx, nubStep_len])
    have off : ∀ b, b ∉ S :: wr → b ≠ S := fun b z e => z (e ▸ List.mem_cons_self)
    refine wpAny_pure ⟨plainId_quiet PyProof.Rows.F.plain_set_update_loop _, ih (i + 1) _ (by omega) lt (W.frame _ s1 _ _ hst1 (Nat.le_succ _) fun b hb o z => (sb.2 b fun e : b = S => hS (e ▸ hb)).trans z) hN3 fun s2 mv2 hN4 => fin s2 (Moved.trans W.gtrans ((mv.mono up).then_heap (Nat.le_succ _) fun b o hb z => (sb.2 b (off b hb)).trans z) mv2) hN4⟩
end
section
variable {prog : Program} {w : World} {A : Around} {E : Value → Shared → Prop} {s : Shared}
theorem set_of_list {l : Addr} {its : Array Value} {xs : List Str} {Q : Value → Shared → Prop} (hh : A.handled = none) (hl : s.heap.IsList l its) (hi : PyProof.Rows.StrsAre its.toList xs) (hb : xs.length + 1 < scanBound)
    (h : ∀ (h' : Heap) (tk : Nat), SetNub prog w h' s.heap.objs.size xs xs.length → (∀ b o, b < s.heap.objs.size → s.heap.get? b = some o → h'.get? b = some o) → Q (.ref s.heap.objs.size) { s with heap := h', toks := tk }) : wpAny (model prog w) A (call (.type "set") [.ref l]) Q E s := by
  obtain ⟨c0, tl0, hm0⟩ := PySem.F.called_set.mro
  have f1 := PySem.F.called_set.made; have f2 := PySem.F.called_set.sub; have f3 := PySem.F.called_set.notType; have f4 := PySem.F.called_set.canCreate; have f5 := PySem.F.typeCall_set_1 (.ref l)
  have hsz : xs.length = its.size := by rw [← StrsAre.len_eq hi, Array.length_toList]
  (refine wpAny_call (codeAny_of_tree ?_); show wpAny _ _ (callAny (.type "set") _) _ _ _; refine wpAny_pure ⟨Code.quiet_builtin _ (by decide +kernel), codeAny_builtin PySem.F.entry_type_call ?_⟩; rw [Around.under_plain (weight_type_call_type "set" [.ref l] []) rfl])
  (repeat (any_goals (first | assumption | wp_step)))
  refine codeAny_mono (code_set_new_1 (.ref l) (E := E) (Q₁ := fun ob s1 => ∃ led : Bool, ob = .ref s.heap.objs.size ∧ s1 = { s with heap := s.heap.push { cls := .type "set", dict := none, data := .set #[] 0 (.fresh 0 0 led) } }) fun led => ⟨led, rfl, rfl⟩) fun rr s1 hr => ?_
  match rr, hr with
  | .error e, hr => exact hr
  | .ok (.ret ob), hr =>
    obtain ⟨led, rfl, rfl⟩ := hr
    have g1 : (s.heap.push { cls := .type "set", dict := none, data := .set #[] 0 (.fresh 0 0 led) }).get? s.heap.objs.size = some { cls := .type "set", dict := none, data := .set #[] 0 (.fresh 0 0 led) } := Heap.get?_push_size _ rfl
    have g2 : Shared.TypeIs { s with heap := s.heap.push { cls := .type "set", dict := none, data := .set #[] 0 (.fresh 0 0 led) } } (.ref s.heap.objs.size) "set" := ⟨_, g1, rfl⟩
    have g3 := PySem.F.called_set.init.lookup; have g4 := PySem.F.called_set.init.bind (.ref s.heap.objs.size)
    (repeat (any_goals (first | assumption | wp_step)))
    refine codeAny_mono (codeAny_call_builtin (R := wants (fun r s2 => r = .none ∧ ∃ h' tk, s2 = { s with heap := h', toks := tk } ∧ SetNub prog w h' s.heap.objs.size xs xs.length ∧ (∀ b o, b < s.heap.objs.size → s.heap.get? b = some o → h'.get? b = some o)) E) PySem.F.called_set.init.plain PySem.F.entry_set_init (check_set_init_1 g2 ?_)) fun r2 s2 hr2 => ?_
    · obtain ⟨⟨oc, od, oda, osl⟩, hol, hcl, nl, hdl⟩ := hl
      (simp only at hcl hdl); (subst hcl; subst hdl)
      have g5 : (s.heap.push { cls := .type "set", dict := none, data := .set #[] 0 (.fresh 0 0 led) }).get? l = some { cls := .type "list", dict := od, data := .seq its nl, slots := osl } := Heap.get?_push_of_some _ hol
      have g6 := PySem.F.sub_list_set; have g7 := PySem.F.sub_list_frozenset; have g8 : (Value.type "list" == Value.type "dict") = false := by decide
      have g9 : (s.heap.push { cls := .type "set", dict := none, data := .set #[] 0 (.fresh 0 0 led) }).IsList l its := ⟨_, g5, rfl, nl, rfl⟩
      (unfold Builtin.«set.__init__» noKeywords Builtin.Frozenset.updateFrom; generalize hPI : pyIter = PI; wp_walk; subst hPI)
      refine wpAny_pyIter_list g9 (wpAny_bind (wpAny_runValue ?_))
      have k1 : l < s.heap.objs.size := Heap.lt_size hol
      have k2 : A.in1.in1.in1.handled = none := by simp [hh]
      have k3 : l ≠ (s.heap.push { cls := .type "set", dict := none, data := .set #[] 0 (.fresh 0 0 led) }).objs.size := by
        (rw [Heap.size_push]; exact Nat.ne_of_lt (Nat.lt_succ_of_lt k1))
      have k4 : s.heap.objs.size ∉ [(s.heap.push { cls := .type "set", dict := none, data := .set #[] 0 (.fresh 0 0 led) }).objs.size, l] := by
        (rw [Heap.size_push]; simp only [List.mem_cons, List.mem_singleton, List.not_mem_nil, or_false, not_or]; exact ⟨Nat.ne_of_lt (Nat.lt_succ_self _), Nat.ne_of_gt k1⟩)
      have k5 : ∀ (i : Nat) (v : Value), its[i]? = some v → ∃ x t, xs[i]? = some x ∧ v = .str x t := fun i v hv => by
        obtain ⟨t, e⟩ := SS.strs_at hi i v (by rw [Array.getElem?_toList]; exact hv)
        have il : i < xs.length := by rw [hsz]; exact (Array.getElem?_eq_some_iff.mp hv).1
        exact ⟨xs[i], t, List.getElem?_eq_getElem il, by rw [e, List.getD_eq_getElem?_getD, List.getElem?_eq_getElem il] <;> rfl⟩
      refine nub_loop ((Walks.list k2 _ l k3 its).toS) s.heap.objs.size k4 xs hsz (by omega) k5 (its.size - 0) 0 _ (by omega) (Nat.zero_le _) ⟨⟨_, Heap.get?_push_size _ rfl, rfl, rfl⟩, (g9.push _)⟩ ?a0 ?a1
      case a0 => exact PyProof.Rows.SetOf_congr ((PyProof.Rows.setObjOf_fresh (knd := PySem.strKind prog w) led).setOf (Heap.get?_push_of_some _ g1) (by unfold scanBound; omega)) (fun _ => rfl) rfl
      case a1 =>
        rintro ⟨h', g', d', tk', os'⟩ mv hN
        have e1 : g' = s.gens := mv.gens; have e2 : d' = s.drawn := mv.drawn; have e3 : os' = s.os := mv.os
        (subst e1; subst e2; subst e3)
        show wpAny _ _ _ _ _ _
        refine wpAny_pure (by show wpAny _ _ (ret Value.none) _ _ _; exact wpAny_pure ⟨rfl, h', tk', rfl, hsz ▸ hN, fun b o lb z => mv.heap b o (by simp only [List.mem_cons, List.mem_singleton, List.not_mem_nil, or_false, not_or]; rw [Heap.size_push]; exact ⟨Nat.ne_of_lt lb, Nat.ne_of_lt (Nat.lt_succ_of_lt lb)⟩) (Heap.get?_push_of_some _ (Heap.get?_push_of_some _ z))⟩)
    · match r2, hr2 with
      | .error e, hr2 => exact hr2
      | .ok (.ret r), hr2 =>
        obtain ⟨rfl, h', tk, rfl, hN, keep⟩ := hr2
        (repeat (any_goals (first | assumption | wp_step)))
        exact h h' tk hN keep
      | .ok .next, hr2 => exact hr2.elim
      | .ok .brk, hr2 => exact hr2.elim
      | .ok .cont, hr2 => exact hr2.elim
  | .ok .next, hr => exact hr.elim
  | .ok .brk, hr => exact hr.elim
  | .ok .cont, hr => exact hr.elim
end
section
variable {prog : Program} {w : World} {A : Around} {E : Value → Shared → Prop} {s : Shared}
theorem set_of_tuple {l : Addr} {its : Array Value} {xs : List Str} {Q : Value → Shared → Prop} (hh : A.handled = none) (hl : s.heap.IsTuple l its) (hi : PyProof.Rows.StrsAre its.toList xs) (hb : xs.length + 1 < scanBound)
    (h : ∀ (h' : Heap) (tk : Nat), SetNub prog w h' s.heap.objs.size xs xs.length → (∀ b o, b < s.heap.objs.size → s.heap.get? b = some o → h'.get? b = some o) → Q (.ref s.heap.objs.size) { s with heap := h', toks := tk }) : wpAny (model prog w) A (call (.type "set") [.ref l]) Q E s := by
  obtain ⟨c0, tl0, hm0⟩ := PySem.F.called_set.mro
  have f1 := PySem.F.called_set.made; have f2 := PySem.F.called_set.sub; have f3 := PySem.F.called_set.notType; have f4 := PySem.F.called_set.canCreate; have f5 := PySem.F.typeCall_set_1 (.ref l)
  have hsz : xs.length = its.size := by rw [← StrsAre.len_eq hi, Array.length_toList]
  (refine wpAny_call (codeAny_of_tree ?_); show wpAny _ _ (callAny (.type "set") _) _ _ _; refine wpAny_pure ⟨Code.quiet_builtin _ (by decide +kernel), codeAny_builtin PySem.F.entry_type_call ?_⟩; rw [Around.under_plain (weight_type_call_type "set" [.ref l] []) rfl])
  (repeat (any_goals (first | assumption | wp_step)))
  refine codeAny_mono (code_set_new_1 (.ref l) (E := E) (Q₁ := fun ob s1 => ∃ led : Bool, ob = .ref s.heap.objs.size ∧ s1 = { s with heap := s.heap.push { cls := .type "set", dict := none, data := .set #[] 0 (.fresh 0 0 led) } }) fun led => ⟨led, rfl, rfl⟩) fun rr s1 hr => ?_
  match rr, hr with
  | .error e, hr => exact hr
  | .ok (.ret ob), hr =>
    obtain ⟨led, rfl, rfl⟩ := hr
    have g1 : (s.heap.push { cls := .type "set", dict := none, data := .set #[] 0 (.fresh 0 0 led) }).get? s.heap.objs.size = some { cls := .type "set", dict := none, data := .set #[] 0 (.fresh 0 0 led) } := Heap.get?_push_size _ rfl
    have g2 : Shared.TypeIs { s with heap := s.heap.push { cls := .type "set", dict := none, data := .set #[] 0 (.fresh 0 0 led) } } (.ref s.heap.objs.size) "set" := ⟨_, g1, rfl⟩
    have g3 := PySem.F.called_set.init.lookup; have g4 := PySem.F.called_set.init.bind (.ref s.heap.objs.size)
    (repeat (any_goals (first | assumption | wp_step)))
    refine codeAny_mono (codeAny_call_builtin (R := wants (fun r s2 => r = .none ∧ ∃ h' tk, s2 = { s with heap := h', toks := tk } ∧ SetNub prog w h' s.heap.objs.size xs xs.length ∧ (∀ b o, b < s.heap.objs.size → s.heap.get? b = some o → h'.get? b = some o)) E) PySem.F.called_set.init.plain PySem.F.entry_set_init (check_set_init_1 g2 ?_)) fun r2 s2 hr2 => ?_
    · obtain ⟨⟨oc, od, oda, osl⟩, hol, hcl, nl, hdl⟩ := hl
      (simp only at hcl hdl); (subst hcl; subst hdl)
      have g5 : (s.heap.push { cls := .type "set", dict := none, data := .set #[] 0 (.fresh 0 0 led) }).get? l = some { cls := .type "tuple", dict := od, data := .seq its nl, slots := osl } := Heap.get?_push_of_some _ hol
      have g6 := PySem.F.sub_tuple_set; have g7 := PySem.F.sub_tuple_frozenset; have g8 : (Value.type "tuple" == Value.type "dict") = false := by decide
      have g9 : (s.heap.push { cls := .type "set", dict := none, data := .set #[] 0 (.fresh 0 0 led) }).IsTuple l its := ⟨_, g5, rfl, nl, rfl⟩
      (unfold Builtin.«set.__init__» noKeywords Builtin.Frozenset.updateFrom; generalize hPI : pyIter = PI; wp_walk; subst hPI)
      refine wpAny_pyIter_tuple g9 (wpAny_bind (wpAny_runValue ?_))
      have k1 : l < s.heap.objs.size := Heap.lt_size hol
      have k2 : A.in1.in1.in1.handled = none := by simp [hh]
      have k3 : l ≠ (s.heap.push { cls := .type "set", dict := none, data := .set #[] 0 (.fresh 0 0 led) }).objs.size := by
        (rw [Heap.size_push]; exact Nat.ne_of_lt (Nat.lt_succ_of_lt k1))
      have k4 : s.heap.objs.size ∉ [(s.heap.push { cls := .type "set", dict := none, data := .set #[] 0 (.fresh 0 0 led) }).objs.size, l] := by
        (rw [Heap.size_push]; simp only [List.mem_cons, List.mem_singleton, List.not_mem_nil, or_false, not_or]; exact ⟨Nat.ne_of_lt (Nat.lt_succ_self _), Nat.ne_of_gt k1⟩)
      have k5 : ∀ (i : Nat) (v : Value), its[i]? = some v → ∃ x t, xs[i]? = some x ∧ v = .str x t := fun i v hv => by
        obtain ⟨t, e⟩ := SS.strs_at hi i v (by rw [Array.getElem?_toList]; exact hv)
        have il : i < xs.length := by rw [hsz]; exact (Array.getElem?_eq_some_iff.mp hv).1
        exact ⟨xs[i], t, List.getElem?_eq_getElem il, by rw [e, List.getD_eq_getElem?_getD, List.getElem?_eq_getElem il] <;> rfl⟩
      refine nub_loop ((Walks.tuple k2 _ l k3 its).toS) s.heap.objs.size k4 xs hsz (by omega) k5 (its.size - 0) 0 _ (by omega) (Nat.zero_le _) ⟨⟨_, Heap.get?_push_size _ rfl, rfl, rfl⟩, (g9.push _)⟩ ?a0 ?a1
      case a0 => exact PyProof.Rows.SetOf_congr ((PyProof.Rows.setObjOf_fresh (knd := PySem.strKind prog w) led).setOf (Heap.get?_push_of_some _ g1) (by unfold scanBound; omega)) (fun _ => rfl) rfl
      case a1 =>
        rintro ⟨h', g', d', tk', os'⟩ mv hN
        have e1 : g' = s.gens := mv.gens; have e2 : d' = s.drawn := mv.drawn; have e3 : os' = s.os := mv.os
        (subst e1; subst e2; subst e3)
        show wpAny _ _ _ _ _ _
        refine wpAny_pure (by show wpAny _ _ (ret Value.none) _ _ _; exact wpAny_pure ⟨rfl, h', tk', rfl, hsz ▸ hN, fun b o lb z => mv.heap b o (by simp only [List.mem_cons, List.mem_singleton, List.not_mem_nil, or_false, not_or]; rw [Heap.size_push]; exact ⟨Nat.ne_of_lt lb, Nat.ne_of_lt (Nat.lt_succ_of_lt lb)⟩) (Heap.get?_push_of_some _ (Heap.get?_push_of_some _ z))⟩)
    · match r2, hr2 with
      | .error e, hr2 => exact hr2
      | .ok (.ret r), hr2 =>
        obtain ⟨rfl, h', tk, rfl, hN, keep⟩ := hr2
        (repeat (any_goals (first | assumption | wp_step)))
        exact h h' tk hN keep
      | .ok .next, hr2 => exact hr2.elim
      | .ok .brk, hr2 => exact hr2.elim
      | .ok .cont, hr2 => exact hr2.elim
  | .ok .next, hr => exact hr.elim
  | .ok .brk, hr => exact hr.elim
  | .ok .cont, hr => exact hr.elim
end
end Wm
namespace Wm
open PySem L2 PySem.Spec
open PyProof.Rows hiding St
theorem strsAre_vals : ∀ {xs : List Str} {us : List Value}, Vals (xs.map V.str) us → StrsAre us xs
  | [], _, .nil => .nil
  | x :: xs, _, .cons r t => by
    obtain ⟨k, rfl⟩ := r
    exact .cons x k (strsAre_vals t)
def tLenSetS (K : PySem.W.Frag) (ta : TE) : TE := fun σ H Q => ta σ H fun x H1 => ∃ (l : Addr) (xs : List Str), x = .ref l ∧ SqA K H1 l (xs.map V.str) ∧ xs.length ≤ 1000 ∧ Q (.int ((nubS xs).length : Nat)) H1
theorem pe_lenSetS {X : Cx} {a : Expr} {ta : TE} {p p2 q pos : Pos} (hg : Gl X "len") (hm : X.mg "len" = none) (hg2 : Gl X "set") (hm2 : X.mg "set" = none) (ha : PE X a ta) (hc : X.calm = true := by rfl)
    (na : starEach [a] X.env = (false, eval a X.env) :: starEach [] X.env := by rfl) : PE X (.Call (.Name "len" p) [.Call (.Name "set" p2) [a] [] q] [] pos) (tLenSetS X.K ta) := by
  refine ⟨fun pins s σ H Q I h => Call_ (ld_blt I hg hm boot_len (PyProof.Rows.callWith_builtin1 (PyProof.Rows.args_cons ?_ rfl) rfl rfl))⟩
  refine Call_ (ld_blt I hg2 hm2 PyProof.Rows.boot_set (PyProof.Rows.callWith_type1 (PyProof.Rows.args_cons (thn (ha.run pins s σ H _ I h) fun v s1 ⟨x, H1, I1, r1, q1⟩ => PyProof.Rows.args_nil ?_) na) na rfl))
  obtain ⟨l, xs, rfl, hq, hl, q1⟩ := q1
  cases r1
  have sb : xs.length + 1 < scanBound := by unfold scanBound; omega
  have key : ∀ (h' : Heap) (tk : Nat), SetNub X.prog X.w h' s1.heap.objs.size xs xs.length → (∀ b o, b < s1.heap.objs.size → s1.heap.get? b = some o → h'.get? b = some o) →
      wpAny (model X.prog X.w) X.A (spliced (backTo pos (starEach [] X.env))) (fun vs s₂ => wpAny (model X.prog X.w) X.A (call (Value.builtin "len") (.ref s1.heap.objs.size :: vs)) (EP X pins σ Q) X.xe s₂) X.xe { s1 with heap := h', toks := tk } := fun h' tk hN keep => by
    obtain ⟨o, es, ep, t, ho, hex, hd, _, _, _, hf, hn⟩ := hN
    rw [List.take_length] at hn
    have I2 : Inv X pins σ H1 { s1 with heap := h', toks := tk } := I1.kept fun b o e => keep b o (Heap.lt_size e) e
    have hs : (nubS xs).length ≤ xs.length := by
      have := nub_le xs xs.length
      rwa [List.take_length] at this
    refine PyProof.Rows.args_nil (call_len_set ho hex hd hf (by rw [hn]; omega) ⟨.int (nubS xs).length, H1, I2.tok _, ⟨_, by rw [hn]⟩, q1⟩)
  rcases hq with hq | hq
  · obtain ⟨its, r, pl, hz⟩ := I1.list hq
    exact set_of_list (I1.ok.hd hc) pl.isList (by simpa using strsAre_vals r) sb key
  · obtain ⟨its, r, pl, hz⟩ := I1.tuple hq
    exact set_of_tuple (I1.ok.hd hc) pl (by simpa using strsAre_vals r) sb key
theorem nub_nodup {xs : List Str} (h : xs.Nodup) : nubS xs = xs := by
  have key : ∀ (ys acc : List Str), (acc ++ ys).Nodup → ys.foldl nubStep acc = acc ++ ys := by
    intro ys
    induction ys with
    | nil => intro acc _; simp
    | cons y ys ih =>
      intro acc hn
      have no : acc.any (· == y) = false := by
        cases hb : acc.any (· == y) with
        | false => rfl
        | true =>
          obtain ⟨z, hz, e⟩ := List.any_eq_true.mp hb
          have e2 : z = y := eq_of_beq e
          subst e2
          exact absurd rfl ((List.nodup_append.mp hn).2.2 z hz z (by simp))
      have st : nubStep acc y = acc ++ [y] := by
        unfold nubStep
        rw [if_neg (by simp [no])]
      rw [List.foldl_cons, st, ih (acc ++ [y]) (by simpa using hn)]
      simp
  exact key xs [] (by simpa using h)
end Wm
namespace Wm
open PySem
abbrev Fld := Str × Str × Str
structure Row where
  name : Str
  bases : List Str
  abs : Bool
  own : List Fld
def lastOcc : List Str → List Str
  | [] => []
  | x :: t => if x ∈ t then lastOcc t else x :: lastOcc t
theorem mem_last {x : Str} : ∀ {l : List Str}, x ∈ lastOcc l ↔ x ∈ l
  | [] => Iff.rfl
  | y :: t => by
    unfold lastOcc
    have ih := mem_last (x := x) (l := t)
    by_cases h : y ∈ t
    · rw [if_pos h, ih, List.mem_cons]
      exact ⟨.inr, fun z => z.elim (fun e => e ▸ h) id⟩
    · rw [if_neg h, List.mem_cons, List.mem_cons, ih]
theorem last_nodup : ∀ (l : List Str), (lastOcc l).Nodup
  | [] => List.Pairwise.nil
  | y :: t => by
    unfold lastOcc
    have ih := last_nodup t
    by_cases h : y ∈ t
    · rw [if_pos h]
      exact ih
    · rw [if_neg h]
      exact List.nodup_cons.mpr ⟨fun z => h (mem_last.mp z), ih⟩
def names (rows : List Row) : List Str := rows.map (·.name)
def get (tab : List (Str × List Str)) (n : Str) : List Str := (tab.lookup n).getD []
def lineStep (acc : List (Str × List Str)) (r : Row) : List (Str × List Str) := acc ++ [(r.name, lastOcc (r.name :: r.bases.flatMap (get acc)))]
def linesOf (rows : List Row) : List (Str × List Str) := rows.foldl lineStep []
def lineF (rows : List Row) (n : Str) : List Str := get (linesOf rows) n
def ownOf (rows : List Row) (n : Str) : List Fld := match rows.find? (fun r => r.name == n) with
  | some r => r.own
  | none => []
abbrev Fld4 := Str × Str × Str × Str
def fieldsF (rows : List Row) (n : Str) : List Fld4 := (lineF rows n).reverse.flatMap fun o => (ownOf rows o).map fun f => (f.1, f.2.1, f.2.2, o)
theorem lines_snoc (rows : List Row) (r : Row) : linesOf (rows ++ [r]) = linesOf rows ++ [(r.name, lastOcc (r.name :: r.bases.flatMap (lineF rows)))] := by
  unfold linesOf
  rw [List.foldl_append]
  rfl
theorem lookup_names {tab : List (Str × List Str)} {n : Str} : n ∈ tab.map (·.1) ↔ (tab.lookup n).isSome = true := by
  induction tab with
  | nil => simp
  | cons p t ih =>
    obtain ⟨k, v⟩ := p
    simp only [List.map_cons, List.mem_cons, List.lookup_cons]
    by_cases h : n = k
    · subst h
      simp
    · have hb : (n == k) = false := by simpa using h
      simp [h, hb, ih]
theorem lines_names (rows : List Row) : (linesOf rows).map (·.1) = names rows := by
  have key : ∀ (rs : List Row) (acc : List (Str × List Str)), (rs.foldl lineStep acc).map (·.1) = acc.map (·.1) ++ names rs := by
    intro rs
    induction rs with
    | nil => intro acc; simp [names]
    | cons r rs ih =>
      intro acc
      rw [List.foldl_cons, ih]
      simp [lineStep, names]
  simpa [linesOf] using key rows []
theorem line_keep {rows : List Row} {r : Row} {n : Str} (h : n ∈ names rows) : lineF (rows ++ [r]) n = lineF rows n := by
  unfold lineF get
  rw [lines_snoc, List.lookup_append]
  rw [← lines_names, lookup_names] at h
  obtain ⟨v, e⟩ := Option.isSome_iff_exists.mp h
  rw [e]
  rfl
theorem line_new {rows : List Row} {r : Row} (h : r.name ∉ names rows) : lineF (rows ++ [r]) r.name = lastOcc (r.name :: r.bases.flatMap (lineF rows)) := by
  unfold lineF get
  rw [lines_snoc, List.lookup_append]
  rw [← lines_names, lookup_names] at h
  have e : (linesOf rows).lookup r.name = none := Option.not_isSome_iff_eq_none.mp h
  rw [e]
  simp only [Option.none_or, List.lookup_cons, beq_self_eq_true]
  rfl
theorem line_none {rows : List Row} {n : Str} (h : n ∉ names rows) : lineF rows n = [] := by
  unfold lineF get
  rw [← lines_names, lookup_names] at h
  have e : (linesOf rows).lookup n = none := Option.not_isSome_iff_eq_none.mp h
  rw [e]
  rfl
theorem line_keeps {rows more : List Row} {n : Str} (h : n ∈ names rows) : lineF (rows ++ more) n = lineF rows n := by
  induction more generalizing rows with
  | nil => rw [List.append_nil]
  | cons r more ih =>
    rw [show rows ++ r :: more = (rows ++ [r]) ++ more from by simp, ih (by simp [names] at *; exact .inl h), line_keep h]
theorem own_keeps {rows more : List Row} {n : Str} (h : n ∈ names rows) : ownOf (rows ++ more) n = ownOf rows n := by
  unfold ownOf
  rw [List.find?_append]
  obtain ⟨r, hr, e⟩ := List.mem_map.mp h
  have s : (rows.find? (fun r => r.name == n)).isSome = true := by
    rw [List.find?_isSome]
    exact ⟨r, hr, by simp [e]⟩
  obtain ⟨v, e⟩ := Option.isSome_iff_exists.mp s
  rw [e]
  rfl
theorem own_new {rows : List Row} {r : Row} (h : r.name ∉ names rows) : ownOf (rows ++ [r]) r.name = r.own := by
  unfold ownOf
  rw [List.find?_append]
  have e : rows.find? (fun x => x.name == r.name) = none := by
    rw [List.find?_eq_none]
    intro x hx
    simp only [beq_iff_eq]
    intro z
    exact h (z ▸ List.mem_map_of_mem hx)
  rw [e]
  simp
theorem line_sub {rows : List Row} (hb : ∀ (k : Nat) r, rows[k]? = some r → ∀ b, b ∈ r.bases → b ∈ names (rows.take k)) : ∀ {n o : Str}, o ∈ lineF rows n → o ∈ names rows := by
  have key : ∀ (m : Nat), m ≤ rows.length → ∀ {n o : Str}, o ∈ lineF (rows.take m) n → o ∈ names (rows.take m) := by
    intro m
    induction m with
    | zero => intro _ n o h; simp [lineF, linesOf, get] at h
    | succ m ih =>
      intro hm n o h
      have hlt : m < rows.length := hm
      have e : rows.take (m + 1) = rows.take m ++ [rows[m]] := by rw [List.take_add_one, List.getElem?_eq_getElem hlt] <;> rfl
      have mono : ∀ {x : Str}, x ∈ names (rows.take m) → x ∈ names (rows.take m ++ [rows[m]]) := fun z => by
        unfold names
        rw [List.map_append]
        exact List.mem_append_left _ z
      rw [e] at h ⊢
      by_cases hn : n ∈ names (rows.take m)
      · rw [line_keep hn] at h
        exact mono (ih (by omega) h)
      · by_cases hr : n = rows[m].name
        · subst hr
          rw [line_new hn, mem_last, List.mem_cons] at h
          rcases h with rfl | h
          · unfold names
            rw [List.map_append]
            exact List.mem_append_right _ (by simp)
          · obtain ⟨b, _, h2⟩ := List.mem_flatMap.mp h
            exact mono (ih (by omega) h2)
        · rw [line_none (by
            unfold names
            rw [List.map_append, List.mem_append]
            simp only [List.map_cons, List.map_nil, List.mem_cons, List.not_mem_nil, or_false]
            exact fun z => z.elim hn hr)] at h
          cases h
  intro n o h
  have := key rows.length (Nat.le_refl _) (n := n) (o := o)
  rw [List.take_length] at this
  exact this h
theorem fields_keep {rows : List Row} {more : List Row} {n : Str} (hb : ∀ (k : Nat) r, rows[k]? = some r → ∀ b, b ∈ r.bases → b ∈ names (rows.take k)) (h : n ∈ names rows) : fieldsF (rows ++ more) n = fieldsF rows n := by
  unfold fieldsF
  rw [line_keeps h]
  have e : ∀ o, o ∈ (lineF rows n).reverse → (ownOf (rows ++ more) o).map (fun f => (f.1, f.2.1, f.2.2, o)) = (ownOf rows o).map (fun f => ((f.1, f.2.1, f.2.2, o) : Fld4)) := fun o ho => by
    rw [own_keeps (line_sub hb (List.mem_reverse.mp ho))]
  generalize (lineF rows n).reverse = l at e ⊢
  induction l with
  | nil => rfl
  | cons a l ih =>
    rw [List.flatMap_cons, List.flatMap_cons, e a (by simp), ih fun o ho => e o (by simp [ho])]
def isUp (c : Nat) : Bool := decide (65 ≤ c) && decide (c ≤ 90)
def isLow (c : Nat) : Bool := decide (97 ≤ c) && decide (c ≤ 122)
def kindName (x : Str) : Bool := decide (1 ≤ x.length) && (decide (x.length ≤ 8) && (match x.cps.toList with
  | [] => false
  | c :: r => isUp c && r.all isLow))
def fieldName (x : Str) : Bool := decide (1 ≤ x.length) && (decide (x.length ≤ 8) && (x.cps.toList.all isLow && !decide (x ∈ ([.ofString "kind", .ofString "tag", .ofString "self"] : List Str))))
def MODESl : List Str := ["one", "many"]
structure RowOk (all : List Str) (pre : List Row) (r : Row) : Prop where
  nm : kindName r.name = true
  fresh : r.name ∉ names pre
  bsub : ∀ b, b ∈ r.bases → b ∈ names pre
  bnd : r.bases.Nodup
  blen : r.bases.length ≤ 3
  own : ∀ f, f ∈ r.own → fieldName f.1 = true ∧ f.2.1 ∈ MODESl ∧ f.2.2 ∈ all
  fnd : ((fieldsF (pre ++ [r]) r.name).map (·.1)).Nodup
  flen : (fieldsF (pre ++ [r]) r.name).length ≤ 4
def RowsOk (all : List Str) (rows : List Row) : Prop := ∀ (k : Nat) r, rows[k]? = some r → RowOk all (rows.take k) r
structure SchOk (rows : List Row) : Prop where
  ok : RowsOk (names rows) rows
  pos : 1 ≤ rows.length
  few : rows.length ≤ 6
  conc : ∃ r, r ∈ rows ∧ r.abs = false
theorem RowsOk.bs {all : List Str} {rows : List Row} (h : RowsOk all rows) : ∀ (k : Nat) r, rows[k]? = some r → ∀ b, b ∈ r.bases → b ∈ names (rows.take k) := fun k r e b hb => (h k r e).bsub b hb
theorem RowsOk.snoc {all : List Str} {rows : List Row} {r : Row} (h : RowsOk all rows) (hr : RowOk all rows r) : RowsOk all (rows ++ [r]) := by
  intro k x e
  by_cases hk : k < rows.length
  · rw [List.getElem?_append_left hk] at e
    rw [List.take_append_of_le_length (Nat.le_of_lt hk)]
    exact h k x e
  · have hk2 : k = rows.length := by
      rw [List.getElem?_append_right (by omega)] at e
      have := (List.getElem?_eq_some_iff.mp e).1
      simp at this
      omega
    subst hk2
    rw [List.getElem?_append_right (Nat.le_refl _), Nat.sub_self] at e
    cases e
    rw [List.take_append_of_le_length (Nat.le_refl _), List.take_length]
    exact hr
theorem RowsOk.nd {all : List Str} {rows : List Row} (h : RowsOk all rows) : (names rows).Nodup := by
  have key : ∀ (m : Nat), m ≤ rows.length → (names (rows.take m)).Nodup := by
    intro m
    induction m with
    | zero => intro _; simp [names, List.Nodup]
    | succ m ih =>
      intro hm
      have hlt : m < rows.length := hm
      have e : rows.take (m + 1) = rows.take m ++ [rows[m]] := by rw [List.take_add_one, List.getElem?_eq_getElem hlt] <;> rfl
      have f := (h m rows[m] (List.getElem?_eq_getElem hlt)).fresh
      rw [e]
      unfold names at f ⊢
      rw [List.map_append, List.nodup_append]
      refine ⟨ih (by omega), by simp, fun a ha b hb z => ?_⟩
      simp only [List.map_cons, List.map_nil, List.mem_cons, List.not_mem_nil, or_false] at hb
      subst hb z
      exact f ha
  have := key rows.length (Nat.le_refl _)
  rwa [List.take_length] at this
abbrev Held := List (Str × Str)
def pairsF (l : List Fld4) : Held := l.map fun f => (f.2.2.2, f.1)
structure HeldOk (pre : List Row) (bs : List Str) (hd : Held) : Prop where
  sub : ∀ b, b ∈ bs → b ∈ names pre
  bnd : bs.Nodup
  nd : hd.Nodup
  mem : ∀ p, p ∈ hd ↔ ∃ b, b ∈ bs ∧ p ∈ pairsF (fieldsF pre b)
  nnd : (hd.map (·.2)).Nodup
  len : hd.length ≤ 4
theorem HeldOk.nil (pre : List Row) : HeldOk pre [] [] := ⟨fun b h => by simp at h, List.Pairwise.nil, List.Pairwise.nil, fun p => ⟨fun h => by simp at h, fun ⟨b, h, _⟩ => by simp at h⟩, List.Pairwise.nil, by simp⟩
theorem mem_pairs {pre : List Row} {b o f : Str} : (o, f) ∈ pairsF (fieldsF pre b) ↔ o ∈ lineF pre b ∧ f ∈ (ownOf pre o).map (·.1) := by
  unfold pairsF fieldsF
  simp only [List.mem_map, List.mem_flatMap, List.mem_reverse]
  constructor
  · rintro ⟨x, ⟨o', ho, f', hf, rfl⟩, e⟩
    cases e
    exact ⟨ho, f', hf, rfl⟩
  · rintro ⟨ho, f', hf, rfl⟩
    exact ⟨_, ⟨o, ho, f', hf, rfl⟩, rfl⟩
def addNew (h : Held) (p : Str × Str) : Held := if p ∈ h then h else h ++ [p]
def mergeF (h : Held) (l : List Fld4) : Held := (pairsF l).foldl addNew h
theorem merge_mem {l : Held} : ∀ {h : Held} {p : Str × Str}, p ∈ l.foldl addNew h ↔ p ∈ h ∨ p ∈ l := by
  induction l with
  | nil => intro h p; simp
  | cons a l ih =>
    intro h p
    rw [List.foldl_cons, ih]
    unfold addNew
    by_cases z : a ∈ h
    · rw [if_pos z, List.mem_cons]
      exact ⟨fun q => q.imp id .inr, fun q => q.elim .inl fun q => q.elim (fun e => .inl (e ▸ z)) .inr⟩
    · rw [if_neg z, List.mem_append, List.mem_cons, List.mem_cons]
      simp only [List.not_mem_nil, or_false]
      exact or_assoc
theorem merge_nodup {l : Held} : ∀ {h : Held}, h.Nodup → (l.foldl addNew h).Nodup := by
  induction l with
  | nil => intro h z; exact z
  | cons a l ih =>
    intro h z
    rw [List.foldl_cons]
    refine ih ?_
    unfold addNew
    by_cases q : a ∈ h
    · rw [if_pos q]
      exact z
    · rw [if_neg q, List.nodup_append]
      refine ⟨z, by simp, fun x hx y hy e => ?_⟩
      simp only [List.mem_cons, List.not_mem_nil, or_false] at hy
      subst hy e
      exact q hx
theorem HeldOk.add {pre : List Row} {bs : List Str} {hd : Held} {b : Str} (h : HeldOk pre bs hd) (hb : b ∈ names pre) (hn : b ∉ bs) (hl : (mergeF hd (fieldsF pre b)).length ≤ 4) (hd2 : ((mergeF hd (fieldsF pre b)).map (·.2)).Nodup) : HeldOk pre (bs ++ [b]) (mergeF hd (fieldsF pre b)) where
  sub := fun c hc => by
    rcases List.mem_append.mp hc with z | z
    · exact h.sub c z
    · simp only [List.mem_cons, List.not_mem_nil, or_false] at z
      exact z ▸ hb
  bnd := by
    rw [List.nodup_append]
    refine ⟨h.bnd, by simp, fun x hx y hy e => ?_⟩
    simp only [List.mem_cons, List.not_mem_nil, or_false] at hy
    subst hy e
    exact hn hx
  nd := merge_nodup h.nd
  mem := fun p => by
    unfold mergeF
    rw [merge_mem, h.mem]
    constructor
    · rintro (⟨c, hc, z⟩ | z)
      · exact ⟨c, List.mem_append_left _ hc, z⟩
      · exact ⟨b, by simp, z⟩
    · rintro ⟨c, hc, z⟩
      rcases List.mem_append.mp hc with q | q
      · exact .inl ⟨c, q, z⟩
      · simp only [List.mem_cons, List.not_mem_nil, or_false] at q
        exact .inr (q ▸ z)
  nnd := hd2
  len := hl
theorem row_ok {all : List Str} {pre : List Row} {r : Row} {hd : Held} (hp : RowsOk all pre) (h : HeldOk pre r.bases hd) (hl : r.bases.length ≤ 3) (nm : kindName r.name = true) (fresh : r.name ∉ names pre)
    (own : ∀ f, f ∈ r.own → fieldName f.1 = true ∧ f.2.1 ∈ MODESl ∧ f.2.2 ∈ all) (ond : (r.own.map (·.1)).Nodup) (ofr : ∀ f, f ∈ r.own → f.1 ∉ hd.map (·.2)) (olen : r.own.length + hd.length ≤ 4) : RowOk all pre r := by
  have hb := hp.bs
  have hlf : r.name ∉ r.bases.flatMap (lineF pre) := fun z => by
    obtain ⟨b, _, h2⟩ := List.mem_flatMap.mp z
    exact fresh (line_sub hb h2)
  have eline : lineF (pre ++ [r]) r.name = r.name :: lastOcc (r.bases.flatMap (lineF pre)) := by
    rw [line_new fresh]
    show (if _ then _ else _) = _
    rw [if_neg hlf]
  have osub : ∀ o, o ∈ lastOcc (r.bases.flatMap (lineF pre)) → o ∈ names pre := fun o ho => by
    obtain ⟨b, _, h2⟩ := List.mem_flatMap.mp (mem_last.mp ho)
    exact line_sub hb h2
  -- the inherited fields
  let inh : List Fld4 := (lastOcc (r.bases.flatMap (lineF pre))).reverse.flatMap fun o => (ownOf pre o).map fun f => (f.1, f.2.1, f.2.2, o)
  have efields : fieldsF (pre ++ [r]) r.name = inh ++ r.own.map fun f => (f.1, f.2.1, f.2.2, r.name) := by
    unfold fieldsF
    rw [eline, List.reverse_cons, List.flatMap_append]
    congr 1
    · have e : ∀ o, o ∈ (lastOcc (r.bases.flatMap (lineF pre))).reverse → (ownOf (pre ++ [r]) o).map (fun f => (f.1, f.2.1, f.2.2, o)) = (ownOf pre o).map (fun f => ((f.1, f.2.1, f.2.2, o) : Fld4)) := fun o ho => by
        rw [own_keeps (osub o (List.mem_reverse.mp ho))]
      show _ = (lastOcc (r.bases.flatMap (lineF pre))).reverse.flatMap fun o => (ownOf pre o).map fun f => (f.1, f.2.1, f.2.2, o)
      generalize (lastOcc (r.bases.flatMap (lineF pre))).reverse = l at e ⊢
      induction l with
      | nil => rfl
      | cons a l ih => rw [List.flatMap_cons, List.flatMap_cons, e a (by simp), ih fun o ho => e o (by simp [ho])]
    · simp [own_new fresh]
  -- as pairs they are those held
  have ownnd : ∀ o, ((ownOf pre o).map (·.1)).Nodup := fun o => by
    unfold ownOf
    cases hf : pre.find? (fun r => r.name == o) with
    | none => simp [List.Nodup]
    | some x =>
      obtain ⟨k, hk⟩ := List.mem_iff_getElem?.mp (List.mem_of_find?_eq_some hf)
      have ok := hp k x hk
      have en : lineF (pre.take k ++ [x]) x.name = lastOcc (x.name :: x.bases.flatMap (lineF (pre.take k))) := line_new ok.fresh
      have hin : x.name ∈ lineF (pre.take k ++ [x]) x.name := by
        rw [en, mem_last]
        simp
      have sub : ((x.own.map fun f => ((f.1, f.2.1, f.2.2, x.name) : Fld4)).map (·.1)).Sublist ((fieldsF (pre.take k ++ [x]) x.name).map (·.1)) := by
        refine List.Sublist.map _ ?_
        unfold fieldsF
        obtain ⟨l1, l2, e⟩ := List.append_of_mem (List.mem_reverse.mpr hin)
        rw [e, List.flatMap_append, List.flatMap_cons, own_new ok.fresh]
        exact (List.sublist_append_left _ _).trans (List.sublist_append_right _ _)
      have := ok.fnd.sublist sub
      rw [List.map_map] at this
      exact this
  have pnd : (pairsF inh).Nodup := by
    unfold pairsF
    show (((lastOcc (r.bases.flatMap (lineF pre))).reverse.flatMap fun o => (ownOf pre o).map fun f => ((f.1, f.2.1, f.2.2, o) : Fld4)).map fun f => (f.2.2.2, f.1)).Nodup
    rw [List.map_flatMap]
    unfold List.Nodup
    rw [List.pairwise_flatMap]
    refine ⟨fun o _ => ?_, ?_⟩
    · rw [List.map_map]
      have q := ownnd o
      refine List.Pairwise.map _ (fun a b z => ?_) (List.Pairwise.of_map (f := fun (f : Fld) => f.1) (S := fun a b : Str => a ≠ b) (R := fun a b : Fld => a.1 ≠ b.1) (fun a b z => z) q)
      intro e
      exact z (Prod.mk.inj e).2
    · have q : (lastOcc (r.bases.flatMap (lineF pre))).reverse.Nodup := (List.reverse_perm _).symm.nodup (last_nodup _)
      refine List.Pairwise.imp (fun {a b} z x hx y hy e => ?_) q
      obtain ⟨u, hu, rfl⟩ := List.mem_map.mp hx
      obtain ⟨v, hv, rfl⟩ := List.mem_map.mp hy
      obtain ⟨u', _, rfl⟩ := List.mem_map.mp hu
      obtain ⟨v', _, rfl⟩ := List.mem_map.mp hv
      exact z (Prod.mk.inj e).1
  have pm : (pairsF inh).Perm hd := by
    refine (List.perm_ext_iff_of_nodup pnd h.nd).mpr fun p => ?_
    obtain ⟨o, f⟩ := p
    rw [h.mem]
    constructor
    · intro z
      unfold pairsF at z
      obtain ⟨x, hx, e⟩ := List.mem_map.mp z
      obtain ⟨o', ho', hx2⟩ := List.mem_flatMap.mp hx
      obtain ⟨g, hg, rfl⟩ := List.mem_map.mp hx2
      cases e
      obtain ⟨b, h1, h2⟩ := List.mem_flatMap.mp (mem_last.mp (List.mem_reverse.mp ho'))
      exact ⟨b, h1, mem_pairs.mpr ⟨h2, List.mem_map_of_mem hg⟩⟩
    · rintro ⟨b, h1, h2⟩
      obtain ⟨h3, h4⟩ := mem_pairs.mp h2
      obtain ⟨g, hg, rfl⟩ := List.mem_map.mp h4
      unfold pairsF
      refine List.mem_map.mpr ⟨(g.1, g.2.1, g.2.2, o), List.mem_flatMap.mpr ⟨o, List.mem_reverse.mpr (mem_last.mpr (List.mem_flatMap.mpr ⟨b, h1, h3⟩)), List.mem_map.mpr ⟨g, hg, rfl⟩⟩, rfl⟩
  have inames : inh.map (·.1) = (pairsF inh).map (·.2) := by
    unfold pairsF
    rw [List.map_map]
    rfl
  have ilen : inh.length = hd.length := by
    have := pm.length_eq
    unfold pairsF at this
    rwa [List.length_map] at this
  refine ⟨nm, fresh, h.sub, h.bnd, hl, own, ?_, ?_⟩
  · rw [efields, List.map_append, List.map_map, inames, List.nodup_append]
    refine ⟨((pm.map (·.2)).nodup_iff).mpr h.nnd, ond, fun a ha b hb' e => ?_⟩
    subst e
    obtain ⟨f, hf, e2⟩ := List.mem_map.mp hb'
    refine ofr f hf ?_
    have := (pm.map (·.2)).mem_iff.mp ha
    rw [← e2] at this
    exact this
  · rw [efields, List.length_append, List.length_map, ilen]
    omega
end Wm
namespace Wm
open PySem L2 PySem.Spec PySem.W PySem.SeqAt
open PyProof.Rows hiding St
section
variable {D : Ends} {σ : St} {H : Hp} {Q : VK} {K : PySem.W.Frag}
theorem all2_map {α β : Type} {f : α → β} : ∀ {l : List α} {m : List β}, All2 (fun a b => b = f a) l m → m = l.map f
  | _, _, .nil => rfl
  | _, _, .cons h t => by rw [h, all2_map t]; rfl
theorem len_filtA {α : Type} {l : List α} {p : α → Bool} {i : Nat} {x : α} (h : l[i]? = some x) : ((l.take i).filter p).length < l.length := len_filt h
theorem r_lcW {α : Type} {J : It} {n : Nat} {G : Hp → Prop} {Y : Nat → Hp → V → Hp → Prop} {g : TG} {tt : TT} {te : TE} {vs : List Nat} (w : Walk J n G Y) (items : List α) (hn : items.length = n) (p : α → Bool) (Rl : α → V → Hp → Prop)
    (hst : ∀ a y G G', Rl a y G → (∀ b o, G b = some o → G' b = some o) → Rl a y G') (hG : ∀ H', Same H H' → G H') (hz : n ≤ sizeLine)
    (ht : ∀ (D : Addr) (i : Nat) (a : α) (x : V) (Hi Hj : Hp) (acc : List V) (Kt : V → Hp → Prop) (Kf : Hp → Prop), H D = none → items[i]? = some a → Same H Hi → Hi D = some (.lst acc) → Y i Hi x Hj → (p a = true → ∀ y H'', Same Hi H'' → Rl a y (hid D H'') → Kt y H'') → (p a = false → ∀ H'', Same Hi H'' → Kf H'') →
      g x (wipe σ vs) Hj fun σ2 H2 => wipe σ2 vs = wipe σ vs ∧ tt σ2 H2 fun b H3 => if b = true then te σ2 H3 Kt else Kf H3)
    (k : ∀ q ys H', H q = none → Same H H' → H' q = some (.lst ys) → All2 (fun a y => Rl a y H') (items.filter p) ys → Q (.ref q) H') : lcEnd g tt te vs σ Q J H := by
  subst hn
  intro D hD
  refine lc_it w (fun j H' => Same H H' ∧ ∃ ys, H' D = some (.lst ys) ∧ All2 (fun a y => Rl a y (hid D H')) ((items.take j).filter p) ys) ⟨same_new hD, [], upd_same, .nil⟩ (fun i H' _ z => hG H' z.1) (fun i x Hi Hj hi z y => ?_) (fun H' z => ?_)
  · obtain ⟨s, acc, e, hr⟩ := z
    have ha : items[i]? = some items[i] := List.getElem?_eq_getElem hi
    have up : ∀ {H'' : Hp} {acc2 : List V} (G : Hp), (∀ b o, G b = some o → b ≠ D ∧ H'' b = some o) → ∀ b o, G b = some o → hid D (upd H'' D (.lst acc2)) b = some o := fun {H'' acc2} G hG b o z => by
      obtain ⟨n, z'⟩ := hG b o z
      refine hid_at n ?_
      rw [upd_ne n]
      exact z'
    refine ht D i items[i] x Hi Hj acc _ _ hD ha s e y (fun hp y2 H'' s2 hy => ⟨acc, s2 _ _ e, ?_, same_put (s.trans s2) hD, _, upd_same, ?_⟩) (fun hp H'' s2 => ⟨s.trans s2, acc, s2 _ _ e, ?_⟩)
    · rw [← hr.len]
      exact Nat.lt_of_lt_of_le (len_filtA ha) hz
    · rw [take_more ha, List.filter_append, show [items[i]].filter p = [items[i]] from by simp [hp]]
      refine All2.snoc (R := fun u v => Rl u v (hid D (upd H'' D (.lst (acc ++ [y2]))))) (hst _ _ _ _ hy (up _ fun b o z => hid_get z)) (hr.mono fun a b z => hst _ _ _ _ z (up _ fun b o z => ⟨(hid_get z).1, s2 _ _ (hid_get z).2⟩))
    · rw [take_more ha, List.filter_append, show [items[i]].filter p = [] from by simp [hp], List.append_nil]
      exact hr.mono fun a b z => hst _ _ _ _ z fun b o z => hid_at (hid_get z).1 (s2 _ _ (hid_get z).2)
  · obtain ⟨s, ys, e, hr⟩ := z
    rw [List.take_length] at hr
    exact k D ys H' hD s e (hr.mono fun a b z => hst _ _ _ _ z fun b o z => (hid_get z).2)
end
def dataIn (ds : List PyData) (d : PyData) : Bool := ds.any fun z => PyData.eqv z d
def rInP (K : PySem.W.Frag) (neg : Bool) : R2 := fun x y H Q => ∃ (a : Addr) (xs : List V) (d : PyData) (ds : List PyData), y = .ref a ∧ SqA K H a xs ∧ Dp K H x d ∧ DpAll K H xs ds ∧ d.plain = true ∧ PyData.plainAll ds = true ∧ d.depth ≤ 60 ∧ Q (.bl (if neg then !dataIn ds d else dataIn ds d)) H
section
variable {X : Cx}
theorem room_data {ds : List PyData} {d : PyData} (h : d.depth ≤ 60) (hu : X.A.units + 64 < cLine) : X.A.units + 1 + min (PyData.depthAll ds) d.depth < cLine := by
  have := Nat.min_le_right (PyData.depthAll ds) d.depth
  omega
theorem op_inP (hu : X.A.units + 64 < cLine) : OpR X (compareOp .In) (rInP X.K false) := by
  intro pins s σ H x y v u Q I rx ry h
  obtain ⟨a, xs, d, ds, rfl, hs, hd, he, p1, p2, hz, q⟩ := h
  obtain ⟨as, r1⟩ := Dp.reads I d x v hd rx
  rcases hs with hs | hs
  · obtain ⟨bs, r2⟩ := Dp.reads I (.list ds) (.ref a) u (.lst hs he) ry
    exact in_list_data r2 r1 p2 p1 (room_data hz hu) ⟨.bl _, H, I, rfl, q⟩
  · obtain ⟨bs, r2⟩ := Dp.reads I (.tuple ds) (.ref a) u (.tup hs he) ry
    exact in_tuple_data r2 r1 p2 p1 (room_data hz hu) ⟨.bl _, H, I, rfl, q⟩
theorem op_notInP (hu : X.A.units + 64 < cLine) : OpR X (compareOp .NotIn) (rInP X.K true) := by
  intro pins s σ H x y v u Q I rx ry h
  obtain ⟨a, xs, d, ds, rfl, hs, hd, he, p1, p2, hz, q⟩ := h
  obtain ⟨as, r1⟩ := Dp.reads I d x v hd rx
  rcases hs with hs | hs
  · obtain ⟨bs, r2⟩ := Dp.reads I (.list ds) (.ref a) u (.lst hs he) ry
    exact notIn_list_data r2 r1 p2 p1 (room_data hz hu) ⟨.bl _, H, I, rfl, q⟩
  · obtain ⟨bs, r2⟩ := Dp.reads I (.tuple ds) (.ref a) u (.tup hs he) ry
    exact notIn_tuple_data r2 r1 p2 p1 (room_data hz hu) ⟨.bl _, H, I, rfl, q⟩
def rCntS (K : PySem.W.Frag) : V → List V → Hp → VK → Prop := fun x xs H Q => ∃ (p : Addr) (ss : List Str) (k : Str), x = .ref p ∧ xs = [.str k] ∧ SqL K H p (ss.map V.str) ∧ Q (.int (ss.count k : Nat)) H
def eqs (k : Str) (v : Value) : Bool := match v with
  | .str n _ => n == k
  | _ => false
theorem eqs_count {k : Str} : ∀ {ss : List Str} {us : List Value}, Vals (ss.map V.str) us → us.countP (eqs k) = ss.count k
  | [], _, .nil => rfl
  | x :: ss, _, .cons r t => by
    obtain ⟨tk, rfl⟩ := r
    have ih := eqs_count (k := k) t
    rw [List.countP_cons, List.count_cons, ih] <;> rfl
theorem eqs_at {k : Str} {t : Tok} {A : Around} {s : Shared} : ∀ {ss : List Str} {us : List Value}, Vals (ss.map V.str) us → ∀ y ∈ us, EqAt A s y (.str k t) (eqs k y)
  | [], _, .nil, y, hy => by cases hy
  | x :: ss, _, .cons r tl, y, hy => by
    obtain ⟨tk, rfl⟩ := r
    rcases List.mem_cons.mp hy with e | e
    · rw [e]
      exact EqAt.str_str x tk k t
    · exact eqs_at tl y e
theorem mt_lcountS : MtR X "list.count" (rCntS X.K) := by
  intro pins s σ H x xs v us Q I rx rxs h
  obtain ⟨p, ss, k, rfl, rfl, hs, q⟩ := h
  cases rx
  obtain ⟨u, rfl, ru⟩ := rxs.one
  obtain ⟨t, rfl⟩ := ru
  obtain ⟨its, rv, ⟨⟨cls, dd, data, sl⟩, n, ho, hc, hdn, hd⟩, hlen⟩ := I.list hs
  (simp only at hc hd); (subst hc hd)
  refine call_meets PySem.F.slot_list_count ⟨_, ho, rfl⟩ PySem.F.entry_list_count (PySem.F.args_list_count_2 _ _) (SeqAt.list_countAt p its.toArray n dd sl (.str k t) (eqs k)) ⟨ho, fun y hy => eqs_at rv y (by simpa using hy), ?_⟩
  have ec : its.toArray.toList.countP (eqs k) = ss.count k := by
    rw [List.toList_toArray]
    exact eqs_count rv
  exact ⟨.int (ss.count k : Nat), H, I.tok _, ⟨s.toks, by rw [ec]⟩, q⟩
end
section
variable {H : Hp} {Q : VK} {K : PySem.W.Frag}
theorem r_cntS {p : Addr} {xs : List V} {k : Str} (ss : List Str) (h : H p = some (.lst xs)) (e : xs = ss.map V.str) (q : Q (.int (ss.count k : Nat)) H) : rCntS K (.ref p) [.str k] H Q := ⟨p, ss, k, rfl, rfl, e ▸ SqL.of h, q⟩
theorem r_yes {σ : St} {R : Bool → Hp → Prop} (h : R true H) : tYes σ H R := h
theorem r_ixS {z : Str} {i : Int} {c : Nat} (hz : z.length ≤ sizeLine) (h : atI z.cps.toList i = some c) (q : Q (.str ⟨#[c]⟩) H) : rIxS (.str z) (.int i) H Q := ⟨z, i, c, rfl, rfl, hz, h, q⟩
theorem dataIn_typed {α : Type} [DecidableEq α] [Datum α] (l : List α) (a : α) : dataIn (l.map Datum.toD) (Datum.toD a) = decide (a ∈ l) := by
  unfold dataIn
  rw [List.any_map]
  induction l with
  | nil => simp
  | cons b l ih =>
    rw [List.any_cons, ih]
    show (PyData.eqv (Datum.toD b) (Datum.toD a) || _) = _
    rw [Datum.eqv]
    by_cases e : b = a
    · subst e
      simp
    · have e' : ¬ a = b := fun z => e z.symm
      simp [e, e']
end
theorem plainAll_typed {α : Type} [DecidableEq α] [Datum α] : ∀ (l : List α), PyData.plainAll (l.map Datum.toD) = true
  | [] => rfl
  | a :: l => by
    show (PyData.plain (Datum.toD a) && PyData.plainAll (l.map Datum.toD)) = true
    rw [Datum.plain, plainAll_typed l]
    rfl
def rUpper : V → List V → Hp → VK → Prop := fun x xs H Q => ∃ a, x = .str a ∧ xs = [] ∧ a.length ≤ 5592405 ∧ Q (.str (Txt.upper a)) H
theorem mtUpper {X : Cx} : MtR X "str.upper" rUpper := mt_upper
theorem r_upper {H : Hp} {Q : VK} {a : Str} (hz : a.length ≤ 5592405) (q : Q (.str (Txt.upper a)) H) : rUpper (.str a) [] H Q := ⟨a, rfl, rfl, hz, q⟩
def one (c : Nat) : Str := ⟨#[c]⟩
def CAPS : Str := "ABCDEFGHIJKLMNOPQRSTUVWXYZ"
def LOWS : Str := "abcdefghijklmnopqrstuvwxyz"
end Wm
namespace Wm
open PySem L2 PySem.Spec PySem.W PySem.SeqAt
open PyProof.Rows hiding St
def Tx (H H' : Hp) : Prop := ∀ a xs, H a = some (.tup xs) → H' a = some (.tup xs)
theorem Tx.refl (H : Hp) : Tx H H := fun _ _ e => e
theorem Tx.trans {H H1 H2 : Hp} (a : Tx H H1) (b : Tx H1 H2) : Tx H H2 := fun c xs e => b c xs (a c xs e)
theorem tx_same {H H' : Hp} (s : Same H H') : Tx H H' := fun a xs e => s a _ e
theorem tx_step {p c : Addr} {H H' : Hp} (hp : PenAt H p c) (s : PenStep p c H H') : Tx H H' := fun a xs e => s.at hp e rfl
theorem tx_put {H : Hp} {q : Addr} {o : HO} (h : ∀ xs, H q ≠ some (.tup xs)) : Tx H (upd H q o) := fun a xs e => by
  by_cases z : a = q
  · subst z
    exact absurd e (h xs)
  · rw [upd_ne z]
    exact e
theorem tx_lst {H : Hp} {q : Addr} {xs ys : List V} (h : H q = some (.lst xs)) : Tx H (upd H q (.lst ys)) := tx_put fun zs e => by rw [h] at e; cases e
theorem tx_dic {H : Hp} {q : Addr} {xs : List (Key × V)} {o : HO} (h : H q = some (.dK xs)) : Tx H (upd H q o) := tx_put fun zs e => by rw [h] at e; cases e
def StrsAt (H : Hp) (ss : List Str) (v : V) : Prop := ∃ a, v = .ref a ∧ H a = some (.tup (ss.map V.str))
def FldAt (H : Hp) (f : Fld) (v : V) : Prop := ∃ a, v = .ref a ∧ H a = some (.tup [.str f.1, .str f.2.1, .str f.2.2])
def FldsAt (H : Hp) (fs : List Fld) (v : V) : Prop := ∃ a vs, v = .ref a ∧ H a = some (.tup vs) ∧ All2 (FldAt H) fs vs
def F4At (H : Hp) (f : Fld4) (v : V) : Prop := ∃ a, v = .ref a ∧ H a = some (.tup [.str f.1, .str f.2.1, .str f.2.2.1, .str f.2.2.2])
def RowAt (H : Hp) (r : Row) (v : V) : Prop := ∃ a bv ov, v = .ref a ∧ H a = some (.tup [.str r.name, bv, .bl r.abs, ov]) ∧ StrsAt H r.bases bv ∧ FldsAt H r.own ov
def PairAt (H : Hp) (p : Str × Str) (v : V) : Prop := ∃ a, v = .ref a ∧ H a = some (.tup [.str p.1, .str p.2])
def RowsAt (H : Hp) (L : Addr) (rows : List Row) : Prop := ∃ vs, H L = some (.lst vs) ∧ All2 (RowAt H) rows vs
def F4sAt (H : Hp) (L : Addr) (l : List Fld4) : Prop := ∃ vs, H L = some (.lst vs) ∧ All2 (F4At H) l vs
def PairsAt (H : Hp) (L : Addr) (l : Held) : Prop := ∃ vs, H L = some (.lst vs) ∧ All2 (PairAt H) l vs
section
variable {H H' : Hp} {v : V}
theorem StrsAt.tx {ss : List Str} (h : StrsAt H ss v) (t : Tx H H') : StrsAt H' ss v := by
  obtain ⟨a, e, h⟩ := h
  exact ⟨a, e, t _ _ h⟩
theorem FldAt.tx {f : Fld} (h : FldAt H f v) (t : Tx H H') : FldAt H' f v := by
  obtain ⟨a, e, h⟩ := h
  exact ⟨a, e, t _ _ h⟩
theorem F4At.tx {f : Fld4} (h : F4At H f v) (t : Tx H H') : F4At H' f v := by
  obtain ⟨a, e, h⟩ := h
  exact ⟨a, e, t _ _ h⟩
theorem PairAt.tx {f : Str × Str} (h : PairAt H f v) (t : Tx H H') : PairAt H' f v := by
  obtain ⟨a, e, h⟩ := h
  exact ⟨a, e, t _ _ h⟩
theorem FldsAt.tx {fs : List Fld} (h : FldsAt H fs v) (t : Tx H H') : FldsAt H' fs v := by
  obtain ⟨a, vs, e, h, k⟩ := h
  exact ⟨a, vs, e, t _ _ h, k.mono fun _ _ z => z.tx t⟩
theorem RowAt.tx {r : Row} (h : RowAt H r v) (t : Tx H H') : RowAt H' r v := by
  obtain ⟨a, bv, ov, e, h, b, o⟩ := h
  exact ⟨a, bv, ov, e, t _ _ h, b.tx t, o.tx t⟩
theorem all2_rows {rows : List Row} {vs : List V} (h : All2 (RowAt H) rows vs) (t : Tx H H') : All2 (RowAt H') rows vs := h.mono fun _ _ z => z.tx t
theorem all2_f4 {l : List Fld4} {vs : List V} (h : All2 (F4At H) l vs) (t : Tx H H') : All2 (F4At H') l vs := h.mono fun _ _ z => z.tx t
theorem all2_pairs {l : Held} {vs : List V} (h : All2 (PairAt H) l vs) (t : Tx H H') : All2 (PairAt H') l vs := h.mono fun _ _ z => z.tx t
theorem RowsAt.same {L : Addr} {rows : List Row} (h : RowsAt H L rows) (s : Same H H') : RowsAt H' L rows := by
  obtain ⟨vs, e, k⟩ := h
  exact ⟨vs, s _ _ e, all2_rows k (tx_same s)⟩
theorem RowsAt.step {p c L : Addr} {rows : List Row} (h : RowsAt H L rows) (hp : PenAt H p c) (s : PenStep p c H H') : RowsAt H' L rows := by
  obtain ⟨vs, e, k⟩ := h
  exact ⟨vs, s.at hp e rfl, all2_rows k (tx_step hp s)⟩
theorem F4sAt.same {L : Addr} {l : List Fld4} (h : F4sAt H L l) (s : Same H H') : F4sAt H' L l := by
  obtain ⟨vs, e, k⟩ := h
  exact ⟨vs, s _ _ e, all2_f4 k (tx_same s)⟩
theorem PairsAt.same {L : Addr} {l : Held} (h : PairsAt H L l) (s : Same H H') : PairsAt H' L l := by
  obtain ⟨vs, e, k⟩ := h
  exact ⟨vs, s _ _ e, all2_pairs k (tx_same s)⟩
theorem PairsAt.step {p c L : Addr} {l : Held} (h : PairsAt H L l) (hp : PenAt H p c) (s : PenStep p c H H') : PairsAt H' L l := by
  obtain ⟨vs, e, k⟩ := h
  exact ⟨vs, s.at hp e rfl, all2_pairs k (tx_step hp s)⟩
theorem dps_pairs {K : PySem.W.Frag} {l : Held} {vs : List V} (h : All2 (PairAt H) l vs) : DpAll K H vs (l.map Datum.toD) := by
  induction h with
  | nil => exact .nil
  | cons h t ih =>
    obtain ⟨a, rfl, e⟩ := h
    exact .cons (.tup (.of e) (.cons (.str _) (.cons (.str _) .nil))) ih
end
theorem nd_len {α : Type} [BEq α] [LawfulBEq α] : ∀ {l m : List α}, l.Nodup → (∀ x, x ∈ l → x ∈ m) → l.length ≤ m.length
  | [], m, _, _ => Nat.zero_le _
  | x :: t, m, hn, hs => by
    have hx := hs x (by simp)
    have ⟨h1, h2⟩ := List.nodup_cons.mp hn
    have ih := nd_len (l := t) (m := m.erase x) h2 fun y hy => (List.mem_erase_of_ne (fun e : y = x => h1 (by rw [← e]; exact hy))).mpr (hs y (by simp [hy]))
    have hl := List.length_erase_of_mem hx
    have hp : 0 < m.length := List.length_pos_of_mem hx
    simp only [List.length_cons]
    omega
theorem line_nodup (rows : List Row) (n : Str) : (lineF rows n).Nodup := by
  have key : ∀ (rs : List Row) (acc : List (Str × List Str)), (∀ p, p ∈ acc → p.2.Nodup) → ∀ p, p ∈ rs.foldl lineStep acc → p.2.Nodup := by
    intro rs
    induction rs with
    | nil => intro acc h; exact h
    | cons r rs ih =>
      intro acc h
      rw [List.foldl_cons]
      refine ih _ fun p hp => ?_
      rcases List.mem_append.mp hp with z | z
      · exact h p z
      · simp only [List.mem_cons, List.not_mem_nil, or_false] at z
        subst z
        exact last_nodup _
  unfold lineF get
  cases e : (linesOf rows).lookup n with
  | none => exact List.Pairwise.nil
  | some l =>
    have hm : (n, l) ∈ linesOf rows := by
      have : ∀ (t : List (Str × List Str)), t.lookup n = some l → (n, l) ∈ t := by
        intro t
        induction t with
        | nil => intro z; cases z
        | cons p t ih =>
          obtain ⟨a, b⟩ := p
          intro z
          rw [List.lookup_cons] at z
          by_cases h : n = a
          · subst h
            simp only [beq_self_eq_true] at z
            cases z
            simp
          · have hb : (n == a) = false := by simpa using h
            rw [hb] at z
            simp [ih z]
      exact this _ e
    exact key rows [] (fun p hp => by simp at hp) (n, l) hm
theorem line_len {rows : List Row} (hb : ∀ (k : Nat) r, rows[k]? = some r → ∀ b, b ∈ r.bases → b ∈ names (rows.take k)) (n : Str) : (lineF rows n).length ≤ rows.length := by
  have := nd_len (line_nodup rows n) (m := names rows) fun x hx => line_sub hb hx
  unfold names at this
  rwa [List.length_map] at this
theorem take_names {rows : List Row} {i : Nat} {r : Row} (h : rows[i]? = some r) : names (rows.take (i + 1)) = names (rows.take i) ++ [r.name] := by
  rw [take_more h]
  simp [names]
def spLine : Sp := fun vs H Q _ => ∃ (L : Addr) (rows all : _) (n : Str), vs = [.ref L, .str n] ∧ RowsAt H L rows ∧ RowsOk all rows ∧ rows.length ≤ 6 ∧ n ∈ names rows ∧ ∀ q H', Same H H' → H q = none → H' q = some (.lst ((lineF rows n).map V.str)) → Q (.ref q) H'
def spFields : Sp := fun vs H Q _ => ∃ (L : Addr) (rows all : _) (n : Str), vs = [.ref L, .str n] ∧ RowsAt H L rows ∧ RowsOk all rows ∧ rows.length ≤ 6 ∧ n ∈ names rows ∧ ∀ q H', Same H H' → H q = none → F4sAt H' q (fieldsF rows n) → Q (.ref q) H'
def concF (rows : List Row) : List Str := (rows.filter fun r => !r.abs).map (·.name)
def spConc : Sp := fun vs H Q _ => ∃ (L : Addr) (rows : List Row), vs = [.ref L] ∧ RowsAt H L rows ∧ rows.length ≤ 6 ∧ ∀ q H', Same H H' → H q = none → H' q = some (.lst ((concF rows).map V.str)) → Q (.ref q) H'
def underF (rows : List Row) (n : Str) : List Str := (concF rows).filter fun o => decide (n ∈ lineF rows o)
def spUnder : Sp := fun vs H Q _ => ∃ (L : Addr) (rows all : _) (n : Str), vs = [.ref L, .str n] ∧ RowsAt H L rows ∧ RowsOk all rows ∧ rows.length ≤ 6 ∧ ∀ q H', Same H H' → H q = none → H' q = some (.lst ((underF rows n).map V.str)) → Q (.ref q) H'
def spMerged : Sp := fun vs H Q _ => ∃ (L hL : Addr) (rows all : _) (hd : Held) (b : Str), vs = [.ref L, .ref hL, .str b] ∧ RowsAt H L rows ∧ RowsOk all rows ∧ rows.length ≤ 6 ∧ PairsAt H hL hd ∧ hd.length ≤ 4 ∧ b ∈ names rows ∧ (∀ H', Same H H' → Q .non H') ∧
  ((mergeF hd (fieldsF rows b)).length ≤ 4 → ((mergeF hd (fieldsF rows b)).map (·.2)).Nodup → ∀ q H', Same H H' → H q = none → PairsAt H' q (mergeF hd (fieldsF rows b)) → Q (.ref q) H')
def NameAt (pl c : Nat) (x : Str) : Prop := x.cps.toList.all isLow = true ∧ x.length ≤ 8 ∧ x.cps.toList[pl]? = some c
def spLetters : Sp := fun vs H Q _ => ∃ (p c : Addr) (pl k o : Nat) (plain : Bool), vs = [.ref p, .int pl, .int k, .int o, .bl plain] ∧ PenAt H p c ∧ pl < 8 ∧ k < 1000 ∧ o < 26 ∧ ∀ x H', PenStep p c H H' → NameAt pl (97 + (o + k) % 26) x → Q (.str x) H'
def NamesAt (pl o : Nat) (l : List Str) : Prop := ∀ (k : Nat) x, l[k]? = some x → NameAt pl (97 + (o + k) % 26) x
def spNames : Sp := fun vs H Q _ => ∃ (p c : Addr) (n : Nat), vs = [.ref p, .int n] ∧ PenAt H p c ∧ n ≤ 20 ∧ ∀ (pl o : Nat) (l : List Str) q H', pl < 8 → o < 26 → PenStep p c H H' → H q = none → H' q = some (.lst (l.map V.str)) → l.length = n → NamesAt pl o l → Q (.ref q) H'
def spKinds : Sp := fun vs H Q _ => ∃ (p c : Addr) (n : Nat), vs = [.ref p, .int n] ∧ PenAt H p c ∧ n ≤ 20 ∧ ∀ (l : List Str) q H', PenStep p c H H' → H q = none → H' q = some (.lst (l.map V.str)) → l.length = n → l.Nodup → (∀ x, x ∈ l → kindName x = true) → Q (.ref q) H'
def spPool : Sp := fun vs H Q _ => ∃ (p c : Addr) (n : Nat), vs = [.ref p, .int n] ∧ PenAt H p c ∧ n ≤ 20 ∧ ∀ (l : List Str) q H', PenStep p c H H' → H q = none → H' q = some (.lst (l.map V.str)) → l.length = n → l.Nodup → (∀ x, x ∈ l → fieldName x = true) → Q (.ref q) H'
def spOwn : Sp := fun vs H Q _ => ∃ (p c nL pL hL : Addr) (all pool : List Str) (hd : Held), vs = [.ref p, .ref nL, .ref pL, .ref hL] ∧ PenAt H p c ∧ H nL = some (.lst (all.map V.str)) ∧ H pL = some (.lst (pool.map V.str)) ∧ PairsAt H hL hd ∧ pool.length = 9 ∧ pool.Nodup ∧ (∀ x, x ∈ pool → fieldName x = true) ∧
  1 ≤ all.length ∧ all.length ≤ 6 ∧ hd.length ≤ 4 ∧ ∀ (own : List Fld) v H', PenStep p c H H' → FldsAt H' own v → (∀ f, f ∈ own → fieldName f.1 = true ∧ f.2.1 ∈ MODESl ∧ f.2.2 ∈ all) → (own.map (·.1)).Nodup → (∀ f, f ∈ own → f.1 ∉ hd.map (·.2)) → own.length + hd.length ≤ 4 → Q v H'
def spRows : Sp := fun vs H Q _ => ∃ (p c : Addr) (cap : Nat), vs = [.ref p, .int cap] ∧ PenAt H p c ∧ 1 ≤ cap ∧ cap ≤ 6 ∧ ∀ (rows : List Row) q H', PenStep p c H H' → H q = none → RowsAt H' q rows → SchOk rows → Q (.ref q) H'
def RESl : List Str := ["kind", "tag", "self"]
theorem low_mem (c : Nat) : decide (c ∈ LOWS.cps.toList) = isLow c := by
  have k : ∀ c, c < 128 → decide (c ∈ LOWS.cps.toList) = isLow c := by decide +kernel
  by_cases h : c < 128
  · exact k c h
  · have h1 : c ∉ LOWS.cps.toList := fun z => h ((by decide +kernel : ∀ x, x ∈ LOWS.cps.toList → x < 128) c z)
    rw [decide_eq_false h1]
    unfold isLow
    symm
    simp only [Bool.and_eq_false_iff, decide_eq_false_iff_not]
    omega
theorem up_mem (c : Nat) : decide (c ∈ CAPS.cps.toList) = isUp c := by
  have k : ∀ c, c < 128 → decide (c ∈ CAPS.cps.toList) = isUp c := by decide +kernel
  by_cases h : c < 128
  · exact k c h
  · have h1 : c ∉ CAPS.cps.toList := fun z => h ((by decide +kernel : ∀ x, x ∈ CAPS.cps.toList → x < 128) c z)
    rw [decide_eq_false h1]
    unfold isUp
    symm
    simp only [Bool.and_eq_false_iff, decide_eq_false_iff_not]
    omega
theorem low_at {i : Nat} (h : i < 26) : LOWS.cps.toList[i]? = some (97 + i) := by
  have : ∀ i, i < 26 → LOWS.cps.toList[i]? = some (97 + i) := by decide +kernel
  exact this i h
theorem upper_one {c : Nat} (h : isLow c = true) : Txt.upper (one c) = one (c - 32) := by
  have k : ∀ i, i < 26 → Txt.upper (one (97 + i)) = one (97 + i - 32) := by decide +kernel
  unfold isLow at h
  simp only [Bool.and_eq_true, decide_eq_true_eq] at h
  have := k (c - 97) (by omega)
  rwa [show 97 + (c - 97) = c from by omega] at this
theorem str_join_ones : ∀ (cs : List Nat), (Str.join "" (cs.map one)).cps.toList = cs
  | [] => rfl
  | [c] => rfl
  | c :: d :: cs => by
    have ih := str_join_ones (d :: cs)
    show ((one c ++ "") ++ Str.join "" ((d :: cs).map one)).cps.toList = _
    rw [show (((one c ++ "") ++ Str.join "" ((d :: cs).map one)) : Str).cps = ((one c).cps ++ (Str.ofString "").cps) ++ (Str.join "" ((d :: cs).map one)).cps from rfl]
    rw [Array.toList_append, Array.toList_append, ih]
    rfl
theorem join_ones (cs : List Nat) : (Txt.join "" (cs.map one)).cps.toList = cs := by
  rw [show Txt.join "" (cs.map one) = Str.join "" (cs.map one) from StrLaws.glued_eq_join "" _]
  exact str_join_ones cs
end Wm
namespace Wm
open PySem L2
theorem nd_by {l : List Str} {pl : Nat} {g : Nat → Nat} (h : ∀ (k : Nat) x, l[k]? = some x → x.cps.toList[pl]? = some (g k)) (hg : ∀ i j, i < j → j < l.length → g i ≠ g j) : l.Nodup := by
  refine List.pairwise_iff_getElem.mpr fun i j hi hj hij e => ?_
  have h1 := h i _ (List.getElem?_eq_getElem hi)
  have h2 := h j _ (List.getElem?_eq_getElem hj)
  rw [e, h2] at h1
  exact hg i j hij hj (Option.some.inj h1).symm
theorem letters_ne {o i j : Nat} (h : i < j) (hj : j < 26) : (o + i) % 26 ≠ (o + j) % 26 := by omega
theorem name_cons {pl c : Nat} {x : Str} (h : NameAt pl c x) : ∃ d t, x.cps.toList = d :: t ∧ isLow d = true ∧ t.all isLow = true := by
  obtain ⟨h1, h2, h3⟩ := h
  cases hx : x.cps.toList with
  | nil =>
    rw [hx] at h3
    cases h3
  | cons d t =>
    rw [hx, List.all_cons, Bool.and_eq_true] at h1
    exact ⟨d, t, rfl, h1.1, h1.2⟩
def capF (x : Str) : Str := Txt.upper (one (x.cps.toList.headD 0)) ++ cutS x (some 1) none
theorem cut_one {x : Str} {d : Nat} {t : List Nat} (h : x.cps.toList = d :: t) : (cutS x (some 1) none).cps.toList = t := by
  have hl : x.length = t.length + 1 := by
    have e := congrArg List.length h
    rw [Array.length_toList] at e
    exact e
  unfold cutS
  rw [show (1 : Int) = ((1 : Nat) : Int) from rfl, HT.sIx_nat, HT.sIx_none, h, hl, Nat.min_eq_left (by omega)]
  simp
theorem cap_cps {x : Str} {d : Nat} {t : List Nat} (h : x.cps.toList = d :: t) (hd : isLow d = true) : (capF x).cps.toList = (d - 32) :: t := by
  unfold capF
  rw [h, List.headD_cons, upper_one hd, show ((one (d - 32) ++ cutS x (some 1) none : Str)).cps = (one (d - 32)).cps ++ (cutS x (some 1) none).cps from rfl, Array.toList_append, cut_one h]
  rfl
theorem len_cps {x : Str} {l : List Nat} (h : x.cps.toList = l) : x.length = l.length := by
  have e := congrArg List.length h
  rw [Array.length_toList] at e
  exact e
theorem cap_kind {pl c : Nat} {x : Str} (h : NameAt pl c x) : kindName (capF x) = true := by
  obtain ⟨d, t, e, hd, ht⟩ := name_cons h
  have e2 := cap_cps e hd
  have l1 := len_cps e
  have l2 := len_cps e2
  have h8 := h.2.1
  unfold kindName
  rw [l2, e2]
  unfold isLow at hd
  simp only [List.length_cons, Bool.and_eq_true, decide_eq_true_eq] at hd l1 ⊢
  refine ⟨by omega, by omega, ?_, ht⟩
  unfold isUp
  simp only [Bool.and_eq_true, decide_eq_true_eq]
  omega
theorem cap_at {pl c : Nat} {x : Str} (h : NameAt pl c x) : (capF x).cps.toList[pl]? = some (if pl = 0 then c - 32 else c) := by
  obtain ⟨d, t, e, hd, ht⟩ := name_cons h
  have h3 := h.2.2
  rw [cap_cps e hd]
  rw [e] at h3
  cases pl with
  | zero =>
    cases h3
    rfl
  | succ k => exact h3
theorem caps_nodup {pl o : Nat} {l : List Str} (h : NamesAt pl o l) (hl : l.length ≤ 20) : (l.map capF).Nodup := by
  refine nd_by (pl := pl) (g := fun k => if pl = 0 then 97 + (o + k) % 26 - 32 else 97 + (o + k) % 26) (fun k x hx => ?_) (fun i j hij hj => ?_)
  · rw [List.getElem?_map] at hx
    cases e : l[k]? with
    | none =>
      rw [e] at hx
      cases hx
    | some y =>
      rw [e] at hx
      cases hx
      exact cap_at (h k y e)
  · rw [List.length_map] at hj
    have := letters_ne (o := o) hij (by omega)
    by_cases z : pl = 0
    · simp only [if_pos z]
      omega
    · simp only [if_neg z]
      omega
def poolF (x : Str) : Str := if x ∈ RESl then x ++ "x" else x
theorem pool_at {pl c : Nat} {x : Str} (h : NameAt pl c x) : (poolF x).cps.toList[pl]? = some c := by
  unfold poolF
  split
  · rw [show (x ++ (Str.ofString "x")).cps = x.cps ++ (Str.ofString "x").cps from rfl, Array.toList_append]
    have hl : pl < x.cps.toList.length := (List.getElem?_eq_some_iff.mp h.2.2).1
    rw [List.getElem?_append_left hl]
    exact h.2.2
  · exact h.2.2
theorem pool_field {pl c : Nat} {x : Str} (h : NameAt pl c x) : fieldName (poolF x) = true := by
  unfold poolF
  split
  · rename_i hx
    unfold RESl at hx
    simp only [List.mem_cons, List.not_mem_nil, or_false] at hx
    rcases hx with rfl | rfl | rfl <;> decide +kernel
  · rename_i hx
    obtain ⟨d, t, e, hd, ht⟩ := name_cons h
    have l1 := len_cps e
    unfold fieldName
    have e3 : decide (x ∈ ([.ofString "kind", .ofString "tag", .ofString "self"] : List Str)) = false := decide_eq_false hx
    rw [e3, h.1]
    have h8 := h.2.1
    simp only [List.length_cons] at l1
    simp only [Bool.not_false, Bool.and_true, Bool.and_eq_true, decide_eq_true_eq]
    omega
theorem pools_nodup {pl o : Nat} {l : List Str} (h : NamesAt pl o l) (hl : l.length ≤ 20) : (l.map poolF).Nodup := by
  refine nd_by (pl := pl) (g := fun k => 97 + (o + k) % 26) (fun k x hx => ?_) (fun i j hij hj => ?_)
  · rw [List.getElem?_map] at hx
    cases e : l[k]? with
    | none =>
      rw [e] at hx
      cases hx
    | some y =>
      rw [e] at hx
      cases hx
      exact pool_at (h k y e)
  · rw [List.length_map] at hj
    have := letters_ne (o := o) hij (by omega)
    omega
def sufs : List Str → List (Str × List Str)
  | [] => []
  | x :: t => (x, t) :: sufs t
theorem sufs_len : ∀ (l : List Str), (sufs l).length = l.length
  | [] => rfl
  | x :: t => by simp [sufs, sufs_len t]
theorem sufs_at {l : List Str} : ∀ {i : Nat} {a : Str × List Str}, (sufs l)[i]? = some a → l[i]? = some a.1 ∧ l.drop (i + 1) = a.2 := by
  induction l with
  | nil => intro i a h; simp [sufs] at h
  | cons x t ih =>
    intro i a h
    cases i with
    | zero =>
      cases h
      exact ⟨rfl, rfl⟩
    | succ i => exact ih (i := i) (a := a) h
theorem sufs_last : ∀ (l : List Str), ((sufs l).filter fun a => !decide (a.1 ∈ a.2)).map (fun a => V.str a.1) = (lastOcc l).map V.str
  | [] => rfl
  | x :: t => by
    have ih := sufs_last t
    unfold sufs lastOcc
    by_cases h : x ∈ t
    · rw [if_pos h, List.filter_cons_of_neg (by simp [h])]
      exact ih
    · rw [if_neg h, List.filter_cons_of_pos (by simp [h]), List.map_cons, ih, List.map_cons]
theorem cut_from {xs : List V} {k : Nat} : cutV xs (some (k : Int)) none = xs.drop k := by
  unfold cutV
  rw [HT.sIx_nat, HT.sIx_none]
  by_cases h : k ≤ xs.length
  · rw [Nat.min_eq_left h]
    exact List.take_of_length_le (by rw [List.length_drop]; exact Nat.le_refl _)
  · rw [Nat.min_eq_right (by omega), List.drop_of_length_le (Nat.le_refl _), List.drop_of_length_le (by omega)]
    simp
theorem cut_upto {xs : List V} {k : Nat} : cutV xs none (some (k : Int)) = xs.take k := by
  unfold cutV
  rw [HT.sIx_nat, HT.sIx_none]
  by_cases h : k ≤ xs.length
  · rw [Nat.min_eq_left h]
    simp
  · rw [Nat.min_eq_right (by omega)]
    simp
    rw [List.take_of_length_le (by omega)]
theorem flat_le {α β : Type} {f : α → List β} {k : Nat} : ∀ {l : List α}, (∀ x, x ∈ l → (f x).length ≤ k) → (l.flatMap f).length ≤ l.length * k
  | [], _ => by simp
  | a :: l, h => by
    have ih := flat_le (l := l) fun x hx => h x (by simp [hx])
    have h1 := h a (by simp)
    rw [List.flatMap_cons, List.length_append, List.length_cons, Nat.succ_mul]
    omega
theorem RowsOk.take {all : List Str} {rows : List Row} (h : RowsOk all rows) (i : Nat) : RowsOk all (rows.take i) := by
  intro k r e
  rw [List.getElem?_take] at e
  by_cases hk : k < i
  · rw [if_pos hk] at e
    rw [List.take_take, Nat.min_eq_left (Nat.le_of_lt hk)]
    exact h k r e
  · rw [if_neg hk] at e
    cases e
theorem own_len {all : List Str} {rows : List Row} (ok : RowsOk all rows) (o : Str) : (ownOf rows o).length ≤ 4 := by
  unfold ownOf
  cases hf : rows.find? (fun r => r.name == o) with
  | none => exact Nat.zero_le _
  | some x =>
    obtain ⟨k, hk⟩ := List.mem_iff_getElem?.mp (List.mem_of_find?_eq_some hf)
    have okx := ok k x hk
    have hin : x.name ∈ lineF (rows.take k ++ [x]) x.name := by
      rw [line_new okx.fresh, mem_last]
      simp
    have h4 := okx.flen
    unfold fieldsF at h4
    obtain ⟨l1, l2, e⟩ := List.append_of_mem (List.mem_reverse.mpr hin)
    rw [e, List.flatMap_append, List.flatMap_cons, own_new okx.fresh] at h4
    simp only [List.length_append, List.length_map] at h4
    show x.own.length ≤ 4
    omega
theorem fields_len {all : List Str} {rows : List Row} (ok : RowsOk all rows) {n : Str} (hn : n ∈ names rows) : (fieldsF rows n).length ≤ 4 := by
  obtain ⟨r, hr, rfl⟩ := List.mem_map.mp hn
  obtain ⟨k, hk⟩ := List.mem_iff_getElem?.mp hr
  have okr := ok k r hk
  have e : rows = (rows.take k ++ [r]) ++ rows.drop (k + 1) := by
    rw [← take_more hk, List.take_append_drop]
  have hb : ∀ (j : Nat) x, (rows.take k ++ [r])[j]? = some x → ∀ b, b ∈ x.bases → b ∈ names ((rows.take k ++ [r]).take j) := ((ok.take k).snoc okr).bs
  have := okr.flen
  rw [e, fields_keep hb (by unfold names; rw [List.map_append]; exact List.mem_append_right _ (by simp))]
  exact this
theorem conc_sub {rows : List Row} {o : Str} (h : o ∈ concF rows) : o ∈ names rows := by
  obtain ⟨r, hr, rfl⟩ := List.mem_map.mp h
  exact List.mem_map_of_mem (List.mem_filter.mp hr).1
theorem addNew_len (h : Held) (p : Str × Str) : (addNew h p).length ≤ h.length + 1 := by
  unfold addNew
  split <;> simp
theorem merge_len (l : Held) : ∀ (h : Held), (l.foldl addNew h).length ≤ h.length + l.length := by
  induction l with
  | nil => intro h; simp
  | cons a l ih =>
    intro h
    rw [List.foldl_cons]
    have h1 := ih (addNew h a)
    have h2 := addNew_len h a
    simp only [List.length_cons]
    omega
theorem part_len {α : Type} (p : α → Bool) : ∀ (l : List α), (l.filter p).length + (l.filter fun x => !p x).length = l.length
  | [] => rfl
  | a :: l => by
    have ih := part_len p l
    cases h : p a <;> simp [h] <;> omega
theorem free_len {rot inh : List Str} (h : rot.Nodup) : rot.length ≤ (rot.filter fun x => !decide (x ∈ inh)).length + inh.length := by
  have h1 := part_len (fun x => decide (x ∈ inh)) rot
  have h2 : (rot.filter fun x => decide (x ∈ inh)).length ≤ inh.length := nd_len (h.sublist List.filter_sublist) fun x hx => of_decide_eq_true (List.mem_filter.mp hx).2
  omega
theorem rot_perm {l : List Str} {k : Nat} : (l.drop k ++ l.take k).Perm l := by
  have h := List.perm_append_comm (l₁ := l.drop k) (l₂ := l.take k)
  rwa [List.take_append_drop] at h
end Wm
namespace Wm
open PySem L2
structure BFr (p c qN qP qR : Addr) (nm pool : List Str) (rows : List Row) (H H' : Hp) : Prop where
  st : PenStep p c H H'
  n : H' qN = some (.lst (nm.map V.str))
  po : H' qP = some (.lst (pool.map V.str))
  r : RowsAt H' qR rows
section
variable {p c qN qP qR q : Addr} {nm pool : List Str} {rows : List Row} {H H1 H2 : Hp}
theorem BFr.step (h : BFr p c qN qP qR nm pool rows H H1) (s : PenStep p c H1 H2) : BFr p c qN qP qR nm pool rows H H2 :=
  ⟨h.st.trans s, s.at h.st.pen h.n rfl, s.at h.st.pen h.po rfl, h.r.step h.st.pen s⟩
theorem BFr.same (h : BFr p c qN qP qR nm pool rows H H1) (s : Same H1 H2) : BFr p c qN qP qR nm pool rows H H2 :=
  ⟨h.st.same s, s _ _ h.n, s _ _ h.po, h.r.same s⟩
theorem BFr.put {xs ys : List V} (h : BFr p c qN qP qR nm pool rows H H1) (hp : PenAt H p c) (nq : H q = none) (e : H1 q = some (.lst xs)) (n1 : qN ≠ q) (n2 : qP ≠ q) (n3 : qR ≠ q) : BFr p c qN qP qR nm pool rows H (upd H1 q (.lst ys)) := by
  refine ⟨h.st.put hp nq, by rw [upd_ne n1]; exact h.n, by rw [upd_ne n2]; exact h.po, ?_⟩
  obtain ⟨vs, e1, k⟩ := h.r
  exact ⟨vs, by rw [upd_ne n3]; exact e1, all2_rows k (tx_lst e)⟩
theorem BFr.add {xs : List V} {r : Row} {v : V} (h : BFr p c qN qP qR nm pool rows H H1) (hp : PenAt H p c) (nR : H qR = none) (e : H1 qR = some (.lst xs)) (hx : All2 (RowAt H1) rows xs) (hv : RowAt H1 r v) (n1 : qN ≠ qR) (n2 : qP ≠ qR) : BFr p c qN qP qR nm pool (rows ++ [r]) H (upd H1 qR (.lst (xs ++ [v]))) :=
  ⟨h.st.put hp nR, by rw [upd_ne n1]; exact h.n, by rw [upd_ne n2]; exact h.po, xs ++ [v], upd_same, All2.snoc (R := RowAt (upd H1 qR (.lst (xs ++ [v])))) (hv.tx (tx_lst e)) (all2_rows hx (tx_lst e))⟩
end
theorem r_andIf {b : Bool} {p : TT} {t u : TS} {D : Ends} {σ : St} {H : Hp} (P : St → Hp → Prop) (rest : ∀ σ H, P σ H → D.nx σ H)
    (k : ∀ N : St → Hp → Prop, (∀ σ H, P σ H → N σ H) → if b = true then p σ H (fun b H1 => if b = true then t { D with nx := N } σ H1 else u { D with nx := N } σ H1) else (if false = true then t { D with nx := N } σ H else u { D with nx := N } σ H)) :
    if b = true then p σ H (fun b H1 => if b = true then t D σ H1 else u D σ H1) else (if false = true then t D σ H else u D σ H) := k D.nx rest
theorem conc_nil {rows : List Row} (h : concF rows ≠ []) : ∃ r, r ∈ rows ∧ r.abs = false := by
  cases e : concF rows with
  | nil => exact absurd e h
  | cons x t =>
    have : x ∈ concF rows := by rw [e]; simp
    obtain ⟨r, hr, _⟩ := List.mem_map.mp this
    obtain ⟨h1, h2⟩ := List.mem_filter.mp hr
    exact ⟨r, h1, by simpa using h2⟩
end Wm
namespace Wm
open PySem PySem.Spec PyProof.Rows PySem.W
section
variable {prog : Program} {w : World} {A : Around} {E : Value → Shared → Prop} {s : Shared} {T : String} {r d : Addr} {n : Nat} {Pv : Nat → Value → Prop} {OK : Heap → Prop}
theorem collect_src {Q : List Value → Shared → Prop} (K : KdlSrc prog w T r d n Pv OK) (hh : A.handled = none) (hok : OK s.heap) (hn : n ≤ sizeLine)
    (hQ : ∀ h' tk acc, (∀ b o, s.heap.get? b = some o → h'.get? b = some o) → ItemsOf Pv acc n → Q acc.toList { s with heap := h', toks := tk }) : wpAny (model prog w) A (collect (.ref r)) Q E s := by
  have lt := K.there _ hok
  have g1 : (s.heap.push { cls := .type "list", data := .seq ([] : List Value).toArray }).get? s.heap.objs.size = some { cls := .type "list", data := .seq #[] 0 } := Heap.get?_push_size _ rfl
  have g2 : OK (s.heap.push { cls := .type "list", data := .seq ([] : List Value).toArray }) := K.keep _ _ hok fun b _ o e => Heap.get?_push_of_some _ e
  (unfold collect; refine wpAny_bind (wpAny_runValue (codeAny_builtin PySem.F.entry_proto_collect ?_)); rw [Around.under_plainId PySem.F.plain_proto_collect _])
  (show wpAny _ A.in1 (newList [] >>= fun l => again (.builtin "list.__iadd__" ⟨[l, .ref r], []⟩)) _ _ s; refine wpAny_bind (wpAny_newObj_type ?_))
  (refine wpAny_pure ⟨plainId_quiet PySem.F.plain_list_iadd _, codeAny_builtin PySem.F.entry_list_iadd ?_⟩; rw [Around.under_plainId PySem.F.plain_list_iadd _])
  show wpAny _ A.in1 (Builtin.List.listExtendWith (.ref s.heap.objs.size) (.ref r) (.ref s.heap.objs.size)) _ _ { s with heap := s.heap.push { cls := .type "list", data := .seq ([] : List Value).toArray } }
  let R : Result → Shared → Prop := fun r0 s' => r0 = .ok (.ret (.ref s.heap.objs.size)) ∧ ∃ h' tk acc' c', s' = { s with heap := h', toks := tk } ∧ (∀ b o, s.heap.get? b = some o → h'.get? b = some o) ∧ h'.get? s.heap.objs.size = some { cls := .type "list", dict := none, data := .seq acc' c', slots := #[] } ∧ ItemsOf Pv acc' n
  have fin : ∀ r0 s', R r0 s' → ∃ f, r0 = .ok (.ret (.ref s.heap.objs.size)) ∧ f = s' ∧ wpAny (model prog w) A (load s.heap.objs.size >>= fun o => match o.data with | .seq xs _ => pure xs.toList | _ => unsupported "internal:collect") Q E s' := fun r0 s' z => by
    obtain ⟨e, h', tk, acc', c', rfl, keep, g3, hacc⟩ := z
    exact ⟨_, e, rfl, wpAny_bind (wpAny_load g3 (wpAny_pure (hQ h' tk acc' keep hacc)))⟩
  refine wpAny_mono (kdl_extend (R := R) (s := { s with heap := s.heap.push { cls := .type "list", data := .seq ([] : List Value).toArray } }) K hh g2 s.heap.objs.size (Nat.ne_of_gt lt.1) (Nat.ne_of_gt lt.2) (.ref s.heap.objs.size) 0 g1 (fun h' tk acc' c' hk g3 hacc => ⟨rfl, h', tk, acc', c', rfl, fun b o e => hk b o (Nat.ne_of_lt (Heap.lt_size e)) (Heap.get?_push_of_some _ e), g3, hacc⟩) hn) (fun f s' z => ?_) (fun e s' z => by cases z.1)
  cases f with
  | done f =>
    obtain ⟨_, e, _, q⟩ := fin _ _ z
    cases e
    exact q
  | again c' => exact ⟨z.1, codeAny_mono z.2 fun r0 s'' hr => by obtain ⟨_, e, _, q⟩ := fin _ _ hr; subst e; exact q⟩
theorem tuple_of_src {Q : Value → Shared → Prop} (K : KdlSrc prog w T r d n Pv OK) (hh : A.handled = none) (hok : OK s.heap) (hn : n ≤ sizeLine)
    (hQ : ∀ (h' : Heap) (tk : Nat) (acc : Array Value), (∀ b o, s.heap.get? b = some o → h'.get? b = some o) → ItemsOf Pv acc n → Q (.ref h'.objs.size) { s with heap := h'.push { cls := .type "tuple", data := .seq acc }, toks := tk }) : wpAny (model prog w) A (call (.type "tuple") [.ref r]) Q E s := by
  refine callType_codes (T := "tuple") (Bi := Builtin.«object.__init__») (Q₁ := fun ob s1 => s1.TypeIs ob "tuple" ∧ Q ob s1) PySem.F.called_tuple (PySem.F.typeCall_tuple_1 _) PySem.F.entry_object_init ?_ (fun ob s1 z => ⟨z.1, PySem.F.args_object_init_2 _ _, object_init_meets PySem.F.called_tuple.init.lookup PySem.F.called_tuple.made (by decide) prog w A.in1 _ s1 ⟨z.1, rfl, z.2⟩⟩)
  (refine codeAny_of_tree ?_; show wpAny _ _ (do checkBuiltinCall "tuple.__new__" ⟨[.type "tuple", .ref r], []⟩; again (.builtin "tuple.__new__" ⟨[.type "tuple", .ref r], []⟩)) _ _ s; refine wpAny_bind (wpAny_of_eq (PySem.F.newCall_tuple_1 _) (wpAny_pure ⟨plainId_quiet (by decide +kernel) _, codeAny_builtin PySem.F.entry_tuple_new ?_⟩)); rw [Around.under_plainId (by decide +kernel) _])
  have f1 := sub_tuple_self; have f2 := init_tuple_lookup; have f3 := madeHere_tuple; have f4 := K.type s hok; have f5 := K.notTuple
  have hh2 : A.in1.in1.handled = none := by simp [hh]
  wp_walk using wpAny_typeOf f4, collect_src (A := A.in1.in1) K hh2 hok hn
  intro h' tk acc keep hacc
  have hz : acc.toList.toArray.size ≤ sizeLine := by simp only [Array.toArray_toList]; rw [hacc.1]; exact hn
  (show wpAny _ _ (Builtin.Tuple.tupleExact acc.toList.toArray >>= fun v => ret v) _ _ _; unfold Builtin.Tuple.tupleExact; refine wpAny_bind (wpAny_newObj_type ?_ (show acc.toList.toArray.size ≤ sizeLine from hz)))
  have ea : acc.toList.toArray = acc := by simp
  rw [ea]
  exact wpAny_pure ⟨⟨_, Heap.get?_push_size _ rfl, rfl⟩, hQ h' tk acc keep hacc⟩
end
section
open L2
variable {X : Cx}
def rTupD : List V → Hp → VK → Prop := fun xs H Q => ∃ p kvs, xs = [.ref p] ∧ H p = some (.dK kvs) ∧ ∀ q, H q = none → Q (.ref q) (upd H q (.tup (kvs.map fun kv => kV kv.1)))
theorem c_tupD (hc : X.calm = true) : CallR X (.type "tuple") rTupD := by
  intro pins s σ H xs us Q I r h
  obtain ⟨p, kvs, e, hk, q⟩ := h
  subst e
  obtain ⟨u, eu, rx⟩ := vals1 r
  subst eu
  obtain rfl : u = Value.ref p := rx
  obtain ⟨z, lo, vs, rk, hd⟩ := (show ObjOk X.prog X.w H s.heap p (.dK kvs) from I.hok p _ hk)
  obtain ⟨ep, hat⟩ := hd.dictAt
  have hl : kvs.length = vs.length := Paired.length rk
  refine tuple_of_src (kdl_dict (knd := mixKind X.prog X.w) (kvs := vs) (ep := ep) lo) (I.ok.hd hc) hat (hl ▸ z) fun h' tk acc keep hacc => ?_
  have I1 : Inv X pins σ H { s with heap := h', toks := tk } := I.kept keep
  have ob : ObjOk X.prog X.w (upd H h'.objs.size (.tup (kvs.map fun kv => kV kv.1))) (h'.push { cls := .type "tuple", data := .seq acc }) h'.objs.size (.tup (kvs.map fun kv => kV kv.1)) := by
    have el : acc.toList.length = acc.size := by simp
    refine ⟨by rw [List.length_map]; exact z, acc.toList, L2.vals_of_at (by rw [List.length_map, el, hacc.1, hl]) fun j x v h1 h2 => ?_, by rw [Array.toArray_toList]; exact IsTup.new _ _⟩
    obtain ⟨k, y, hky, hi⟩ := hacc.2 j v (by rw [← Array.getElem?_toList]; exact h2)
    have e1 : (kvs.map (·.1))[j]? = some k := by
      rw [KV.keys rk, List.getElem?_map, hky] <;> rfl
    have e2 : (kvs.map fun kv => kV kv.1)[j]? = some (kV k) := by
      rw [show (kvs.map fun kv => kV kv.1) = (kvs.map (·.1)).map kV from by rw [List.map_map]; rfl, List.getElem?_map, e1] <;> rfl
    rw [e2] at h1
    cases h1
    exact keyIs_rel hi
  exact ⟨.ref h'.objs.size, _, I1.laid (t' := tk) (fun b o e => Heap.get?_push_of_some _ e) (Nat.le_refl _) ob, rfl, q _ (I1.hok.fresh (Nat.le_refl _))⟩
theorem r_tupD {H : Hp} {Q : VK} {p : Addr} {kvs : List (Key × V)} (h : H p = some (.dK kvs)) (k : ∀ q H', H q = none → Same H H' → H' q = some (.tup (kvs.map fun kv => kV kv.1)) → Q (.ref q) H') : rTupD [.ref p] H Q := ⟨p, kvs, rfl, h, fun q n => k q _ n (same_new n) upd_same⟩
set_option maxRecDepth 8000 in
theorem ext_tup (l : Addr) (items : Array Value) (n : Nat) (b : Addr) (items2 : Array Value) (n2 : Nat) (od) (os) (hs0 : ¬(!items.isEmpty && Builtin.List.listTooLong (items.size + items2.size)) = true) (hs1 : items.size ≤ sizeLine) (hs2 : items.size + items2.size ≤ sizeLine + 1 := by seq_fits) :
    Meets (Builtin.«list.extend» ⟨[.ref l, .ref b], []⟩) (fun _ R s => s.heap.get? l = some { cls := .type "list", dict := none, data := .seq items n, slots := #[] } ∧ s.heap.get? b = some { cls := .type "tuple", dict := od, data := .seq items2 n2, slots := os } ∧ R (.ok (.ret Value.none)) { s with heap := s.heap.update l (Obj.mapSeq fun x => x ++ items2), toks := s.toks }) :=
  .of_wp fun prog w A R s h => by
    obtain ⟨hp, g, d, tk, ot⟩ := s; obtain ⟨hl, hb, h⟩ := h; have f1 := PySem.AutoSeq1.idx_int; have f2 := PySem.AutoSeq1.sub_tuple_tuple; have f3 := PySem.AutoSeq1.sub_list_list; have f4 := PySem.AutoSeq1.sub_tuple_list; have f5 := PySem.AutoSeq1.sub_list_tuple;
    have hz' : (items ++ items2).size ≤ sizeLine + 1 := by rw [Array.size_append]; exact hs2
    wp_walk using (wpAny_updateSeq hl rfl (hz := hs1) (_hz' := hz')), PySem.AutoSeq1.wpAny_loadPart' hl, PySem.AutoSeq1.wpAny_loadPart' hb; exact ⟨_, rfl, h⟩
def rExtT : V → List V → Hp → VK → Prop := fun x vs H Q => ∃ l b xs zs, x = .ref l ∧ vs = [.ref b] ∧ H l = some (.lst xs) ∧ H b = some (.tup zs) ∧ xs.length + zs.length ≤ sizeLine ∧ Q .non (upd H l (.lst (xs ++ zs)))
theorem mt_extT : MtM X "list.extend" rExtT := by
  intro pins s σ H x vs v us Q I rx rv h
  obtain ⟨l, b, xs, zs, rfl, rfl, hH, hB, hz, q⟩ := h
  cases rx
  obtain ⟨u, rfl, ru⟩ := rv.one
  cases ru
  obtain ⟨z, its, n, r, hl, e⟩ := I.lstM hH
  obtain ⟨z2, its2, r2, hT⟩ := (show ObjOk X.prog X.w H s.heap b (.tup zs) from I.hok b _ hB)
  obtain ⟨⟨oc, od, oa, os⟩, e2, rfl, n2, rfl⟩ := hT
  have hl2 : zs.length = its2.length := r2.length
  have hsz : its.toArray.size + its2.toArray.size ≤ sizeLine := by rw [List.size_toArray, List.size_toArray]; omega
  have hlong : ¬ (!its.toArray.isEmpty && Builtin.List.listTooLong (its.toArray.size + its2.toArray.size)) = true := by
    rw [notLongL hsz, Bool.and_false]
    exact Bool.false_ne_true
  refine call_meets F.slot_list_extend ⟨_, e, rfl⟩ F.entry_list_extend (F.args_list_extend_2 _ _)
    (ext_tup l its.toArray n b its2.toArray n2 od os hlong (by rw [List.size_toArray]; omega) (by omega)) ⟨e, e2, ?_⟩
  refine ⟨.non, _, I.lset (its' := its ++ its2) hH e (by simp) (r.append r2) ?_, rfl, q⟩
  rw [List.length_append]
  omega
theorem r_extT {H : Hp} {Q : VK} {l b : Addr} {xs zs : List V} (hl : H l = some (.lst xs)) (hb : H b = some (.tup zs)) (hz : xs.length + zs.length ≤ sizeLine)
    (k : Q .non (upd H l (.lst (xs ++ zs)))) : rExtT (.ref l) [.ref b] H Q := ⟨l, b, xs, zs, rfl, rfl, hl, hb, hz, k⟩
end
section
open L2
variable {X : Cx}
def rInSign : R2 := fun x y H Q => ∃ (c : Nat) (z : Str), x = .str ⟨#[c]⟩ ∧ y = .str z ∧ Q (.bl (decide (c ∈ z.cps.toList))) H
theorem op_inSign : OpR X (compareOp .In) rInSign := op_in_sign
theorem r_inSign {c : Nat} {z : Str} {H : Hp} {Q : VK} (q : Q (.bl (decide (c ∈ z.cps.toList))) H) : rInSign (.str ⟨#[c]⟩) (.str z) H Q := ⟨c, z, rfl, rfl, q⟩
theorem fun_in {K : PySem.W.Frag} {x qual : Str} {st : Stmt} {f : Addr} {fd : FuncData} (F : Fun K x qual st f fd) : PySem.W.fnIn K f = true := by
  obtain ⟨oc, od, kV, doc, pm, an, cdv, ct, osl, rfl, lk, hcd⟩ := F.ex
  unfold PySem.W.fnIn
  rw [lk]
def rIxOwn (C : Addr) (sp : Sp) (E : XK) : R2 := fun x y H Q => ∃ a dx fs, x = .ref a ∧ H a = some (.ins C dx fs) ∧ sp [x, y] H Q E
def SubOwn (b : Expr) : Prop := ∀ o i, subscripted b true o i = runValue (.builtin "lifetime.subscript" ⟨[o, i], []⟩)
theorem pe_ixOwn {CX : CXT} {C f : Addr} {fd : FuncData} {ps : List Str} {k : Nat} {sp : Sp} {E : XK} {a b : Expr} {ta tb : TE} {pos : Pos} (F : FnOk X.prog X.w X.K X.mg X.base CX k f fd ps sp) (hr : Room (k + 1) X.A) (hm : Meth X.K C "__getitem__" f) (hf : PySem.W.fnIn X.K f = true) (hb : Binds X.K fd ps []) (hx : Passes CX X E)
    (ha : PE X a ta) (hi : PE X b tb) (hs : SubOwn b) : PE X (.Subscript a b pos) (tOp (rIxOwn C sp E) ta tb) := by
  refine ⟨fun pins s σ H Q I h => ?_⟩
  refine Subscript_ (binT ha hi I h fun v u s2 x y H2 I2 rx ry q => ?_)
  obtain ⟨o, dx, fs, rfl, ho, q⟩ := q
  cases rx
  obtain ⟨mA, J, _⟩ := ins_get I2.hok ho
  obtain ⟨od, J, _⟩ := J.look
  obtain ⟨m, hF⟩ := I2.fr
  refine PySem.W.sub_K hF I2.ok.mod.kin J hm.at_ hf hm.fn ?_ (hs _ _)
  have hl : [Value.ref o, u].length = ps.length := F.len _ _ _ _ q
  refine wpAny_call (codeAny_mono (F.run X.A.in1 X.stack s2 H2 ⟨[.ref o, u], []⟩ [.ref o, u] [.ref o, y] Q E hr.in1 I2.env0.in1 (by have := hb s2 [.ref o, u] I2.kIn (by rw [List.append_nil]; exact hl); rwa [List.append_nil] at this) (.cons rfl (.cons ry .nil)) q) fun r s' hq => ?_)
  cases r with
  | error e => exact hx pins σ H2 s2 e s' I2 hq
  | ok fl =>
    cases fl with
    | ret u' => exact I2.after hq
    | next => exact False.elim hq
    | brk => exact False.elim hq
    | cont => exact False.elim hq
theorem r_ixOwn {C o dx : Addr} {fs : List (Str × V)} {sp : Sp} {E : XK} {y : V} {H : Hp} {Q : VK} (h : H o = some (.ins C dx fs)) (q : sp [.ref o, y] H Q E) : rIxOwn C sp E (.ref o) y H Q := ⟨o, dx, fs, rfl, h, q⟩
end
end Wm
namespace Wm
open PySem L2 PySem.Spec PySem.W PySem.SeqAt
open PyProof.Rows hiding St
section
variable {D : Ends} {σ : St} {H : Hp} {Q : VK} {K : PySem.W.Frag}
theorem r_is {te : TE} {R : It → Hp → Prop} (h : te σ H fun v H1 => ∃ x, v = .str x ∧ R (Its x) H1) : iStr te σ H R := h
theorem r_isK {x : Str} {R : It → Hp → Prop} (q : R (Its x) H) : ∃ y : Str, V.str x = .str y ∧ R (Its y) H := ⟨x, rfl, q⟩
theorem r_ie {ta : TA} {R : It → Hp → Prop} (h : ta σ H fun vs H1 => ∃ a xs, vs = [.ref a] ∧ SqL K H1 a xs ∧ R (Ite K a) H1) : iEnum K ta σ H R := h
theorem r_ieK {a : Addr} {xs : List V} {R : It → Hp → Prop} (h : SqL K H a xs) (q : R (Ite K a) H) : ∃ b ys, [V.ref a] = [.ref b] ∧ SqL K H b ys ∧ R (Ite K b) H := ⟨a, xs, rfl, h, q⟩
theorem r_iv {ta : TA} {R : It → Hp → Prop} (h : ta σ H fun vs H1 => ∃ (a : Addr) (xs : List V), vs = [.ref a] ∧ SqL K H1 a xs ∧ R (Itv K a xs.length) H1) : iRev K ta σ H R := h
theorem r_iky {td : TE} {R : It → Hp → Prop} (h : td σ H fun x H1 => ∃ d o, x = .ref d ∧ ((∃ kvs, H1 d = some (.frz o (.dK kvs)) ∧ R (Itk d o kvs) H1) ∨ ∃ kvs, H1 d = some (.frz o (.dT kvs)) ∧ R (Itkt d o kvs) H1)) : iKeys td σ H R := h
theorem r_chain {r r' : R2} {ta tb tc : TE} (h : ta σ H fun x H1 => tb σ H1 fun y H2 => r x y H2 fun z H3 => ∃ k, z = .bl k ∧ (if k = true then tc σ H3 fun w' H4 => r' y w' H4 Q else Q (.bl false) H3)) : tChain r r' ta tb tc σ H Q := h
theorem r_allK {a : Addr} {bs : List Bool} (h : SqL K H a (bs.map V.bl)) (q : Q (.bl (bs.all id)) H) : rAll K [.ref a] H Q := ⟨a, bs, rfl, h, q⟩
theorem r_lenSet {ta : TE} (h : ta σ H fun x H1 => ∃ (l : Addr) (xs : List Str), x = .ref l ∧ SqA K H1 l (xs.map V.str) ∧ xs.length ≤ 1000 ∧ Q (.int ((nubS xs).length : Nat)) H1) : tLenSetS K ta σ H Q := h
theorem r_dIn {ty td : TE} (h : ty σ H fun y H1 => td σ H1 fun x H2 => ∃ a o, x = .ref a ∧ DGet H2 a y o ∧ Q (.bl o.isSome) H2) : tDIn ty td σ H Q := h
theorem r_isiT {x : V} {tp : Addr} {cs : List V} {t : String} {us : List Value} {b : Bool} (h : H tp = some (.tup cs)) (c : Paired ClsV cs us) (ty : TyX K H x (.type t)) (e : PySem.W.kitAny K (.type t) us = some b) (q : Q (.bl b) H) : rIsiT K [x, .ref tp] H Q := ⟨x, tp, cs, _, us, b, rfl, h, c, ty, e, q⟩
theorem r_lockE {t : TE} {d : Addr} {kvs : List (Key × V)} (h : H d = some (.dK kvs)) (k : ∀ od, t σ (upd H d (.frz od (.dK kvs))) fun v H' => H' d = some (.frz od (.dK kvs)) ∧ Q v (upd H' d (.dK kvs))) : tLockE t σ H Q := ⟨d, .dK kvs, h, trivial, k⟩
theorem r_dgetF {p : Addr} {od : Obj} {kvs : List (Key × V)} {k : Str} {v : V} {R : V → Prop} (h : H p = some (.frz od (.dK kvs))) (e : valV kvs (.inr k) = some v) (q : R v) : ∃ a v, V.ref p = .ref a ∧ DGet H a (.str k) (some v) ∧ R v := ⟨p, v, rfl, e ▸ .inl ⟨kvs, .inr k, .inr ⟨od, h⟩, rfl, rfl⟩, q⟩
theorem r_isiTT {x : V} {tp : Addr} {xs : List V} {q : Addr} (h : H tp = some (.tup [.ty "list", .ty "tuple"])) (hx : H q = some (.lst xs)) (k : Q (.bl true) H) : rIsiT K [.ref q, .ref tp] H Q := r_isiT h (.cons (.ty _) (.cons (.ty _) .nil)) (.base (.lst hx)) rfl k
end
def kfs (n : Str) (bv : V) (ab : Bool) (ov : V) (la fa : Addr) : List (Str × V) := [("name", .str n), ("bases", bv), ("is_abstract", .bl ab), ("own", ov), ("line", .ref la), ("fields", .ref fa)]
structure KndIn (C : Addr) (H : Hp) (rows : List Row) (r : Row) (a dx : Addr) (bv ov : V) (la fa : Addr) (fvs : List V) : Prop where
  at_ : H a = some (.ins C dx (kfs r.name bv r.abs ov la fa))
  bs : StrsAt H r.bases bv
  own : FldsAt H r.own ov
  line : H la = some (.tup ((lineF rows r.name).map V.str))
  flds : H fa = some (.tup fvs)
  f4 : All2 (F4At H) (fieldsF rows r.name) fvs
def KndAt (C : Addr) (H : Hp) (rows : List Row) (r : Row) (v : V) : Prop := ∃ a dx bv ov la fa fvs, v = .ref a ∧ KndIn C H rows r a dx bv ov la fa fvs
theorem KndIn.same {C : Addr} {H H' : Hp} {rows : List Row} {r : Row} {a dx la fa : Addr} {bv ov : V} {fvs : List V} (h : KndIn C H rows r a dx bv ov la fa fvs) (s : Same H H') : KndIn C H' rows r a dx bv ov la fa fvs :=
  ⟨s _ _ h.at_, h.bs.tx (tx_same s), h.own.tx (tx_same s), s _ _ h.line, s _ _ h.flds, all2_f4 h.f4 (tx_same s)⟩
theorem KndAt.same {C : Addr} {H H' : Hp} {rows : List Row} {r : Row} {v : V} (h : KndAt C H rows r v) (s : Same H H') : KndAt C H' rows r v := by
  obtain ⟨a, dx, bv, ov, la, fa, fvs, e, h⟩ := h
  exact ⟨a, dx, bv, ov, la, fa, fvs, e, h.same s⟩
def But (d : Addr) (H H' : Hp) : Prop := ∀ b o, b ≠ d → H b = some o → H' b = some o
theorem KndAt.but {C d : Addr} {H H' : Hp} {rows : List Row} {r : Row} {v : V} {kvs : List (Key × V)} (h : KndAt C H rows r v) (e : H d = some (.dK kvs)) (s : But d H H') : KndAt C H' rows r v := by
  have ne : ∀ {b : Addr} {o : HO}, H b = some o → (∀ l, o ≠ .dK l) → b ≠ d := fun h1 h2 z => by
    rw [z, e] at h1
    cases h1
    exact h2 _ rfl
  have tx : Tx H H' := fun b xs h1 => s _ _ (ne h1 (fun l z => by cases z)) h1
  obtain ⟨a, dx, bv, ov, la, fa, fvs, e2, h⟩ := h
  exact ⟨a, dx, bv, ov, la, fa, fvs, e2, s _ _ (ne h.at_ (fun l z => by cases z)) h.at_, h.bs.tx tx, h.own.tx tx, tx _ _ h.line, tx _ _ h.flds, all2_f4 h.f4 tx⟩
theorem KndAt.step {C p c : Addr} {H H' : Hp} {rows : List Row} {r : Row} {v : V} (h : KndAt C H rows r v) (hp : PenAt H p c) (s : PenStep p c H H') : KndAt C H' rows r v := by
  obtain ⟨a, dx, bv, ov, la, fa, fvs, e2, h⟩ := h
  have tx := tx_step hp s
  exact ⟨a, dx, bv, ov, la, fa, fvs, e2, s.at hp h.at_ rfl, h.bs.tx tx, h.own.tx tx, tx _ _ h.line, tx _ _ h.flds, all2_f4 h.f4 tx⟩
structure KnownAt (C : Addr) (H : Hp) (rows : List Row) (d : Addr) (kvs : List (Key × V)) : Prop where
  at_ : H d = some (.dK kvs)
  keys : kvs.map (·.1) = (names rows).map Sum.inr
  knd : ∀ r, r ∈ rows → ∃ v, valV kvs (.inr r.name) = some v ∧ KndAt C H rows r v
def sfs (rv nv dv : Addr) : List (Str × V) := [("rows", .ref rv), ("names", .ref nv), ("known", .ref dv)]
structure SchIn (C D : Addr) (H : Hp) (rows : List Row) (S dx rv nv dv : Addr) (rvs : List V) (kvs : List (Key × V)) : Prop where
  at_ : H S = some (.ins D dx (sfs rv nv dv))
  rws : H rv = some (.tup rvs)
  rall : All2 (RowAt H) rows rvs
  nms : H nv = some (.tup ((names rows).map V.str))
  kn : KnownAt C H rows dv kvs
def SchAt (C D : Addr) (H : Hp) (rows : List Row) (S : Addr) : Prop := ∃ dx rv nv dv rvs kvs, SchIn C D H rows S dx rv nv dv rvs kvs
theorem KnownAt.same {C d : Addr} {H H' : Hp} {rows : List Row} {kvs : List (Key × V)} (h : KnownAt C H rows d kvs) (s : Same H H') : KnownAt C H' rows d kvs :=
  ⟨s _ _ h.at_, h.keys, fun r hr => by
    obtain ⟨v, e, k⟩ := h.knd r hr
    exact ⟨v, e, k.same s⟩⟩
theorem SchAt.same {C D S : Addr} {H H' : Hp} {rows : List Row} (h : SchAt C D H rows S) (s : Same H H') : SchAt C D H' rows S := by
  obtain ⟨dx, rv, nv, dv, rvs, kvs, h⟩ := h
  exact ⟨dx, rv, nv, dv, rvs, kvs, s _ _ h.at_, s _ _ h.rws, all2_rows h.rall (tx_same s), s _ _ h.nms, h.kn.same s⟩
theorem SchAt.step {C D S p c : Addr} {H H' : Hp} {rows : List Row} (h : SchAt C D H rows S) (hp : PenAt H p c) (hn : ∀ dx rv nv dv rvs kvs, SchIn C D H rows S dx rv nv dv rvs kvs → dv ≠ p) (s : PenStep p c H H') : SchAt C D H' rows S := by
  obtain ⟨dx, rv, nv, dv, rvs, kvs, h⟩ := h
  refine ⟨dx, rv, nv, dv, rvs, kvs, s.at hp h.at_ rfl, s.at hp h.rws rfl, all2_rows h.rall (tx_step hp s), s.at hp h.nms rfl, s.atd h.kn.at_ (hn _ _ _ _ _ _ h), h.kn.keys, fun r hr => ?_⟩
  obtain ⟨v, e, k⟩ := h.kn.knd r hr
  exact ⟨v, e, k.step hp s⟩
theorem mem_row {rows : List Row} {n : Str} (h : n ∈ names rows) : ∃ r, r ∈ rows ∧ r.name = n := by
  obtain ⟨r, h1, h2⟩ := List.mem_map.mp h
  exact ⟨r, h1, h2⟩
theorem valV_none {kvs : List (Key × V)} {k : Key} (h : k ∉ kvs.map (·.1)) : valV kvs k = none := by
  unfold valV
  rw [List.find?_eq_none.mpr (fun kv hkv => by
    simp only [decide_eq_true_eq]
    intro e
    exact h (e ▸ List.mem_map_of_mem hkv))]
  rfl
theorem known_none {C d : Addr} {H : Hp} {rows : List Row} {kvs : List (Key × V)} {n : Str} (h : KnownAt C H rows d kvs) (hn : n ∉ names rows) : valV kvs (.inr n) = none := valV_none (by
  rw [h.keys]
  intro z
  obtain ⟨m, h1, h2⟩ := List.mem_map.mp z
  exact hn (Sum.inr.inj h2 ▸ h1))
theorem known_some {C d : Addr} {H : Hp} {rows : List Row} {kvs : List (Key × V)} {n : Str} (h : KnownAt C H rows d kvs) (hn : n ∈ names rows) : ∃ r v, r ∈ rows ∧ r.name = n ∧ valV kvs (.inr n) = some v ∧ KndAt C H rows r v := by
  obtain ⟨r, h1, rfl⟩ := mem_row hn
  obtain ⟨v, e, k⟩ := h.knd r h1
  exact ⟨r, v, h1, rfl, e, k⟩
def KnV (H : Hp) (v : V) (b : Bool) : Prop := (∃ x, v = .str x ∧ x.length ≤ sizeLine ∧ b = kindName x) ∨ (AnyV H v ∧ (∀ x, v ≠ .str x) ∧ b = false)
def spLow : Sp := fun vs H Q _ => ∃ (x : Str), vs = [.str x] ∧ x.length ≤ 100 ∧ ∀ H', Same H H' → Q (.bl (x.cps.toList.all isLow)) H'
def spKn : Sp := fun vs H Q _ => ∃ (v : V) (b : Bool), vs = [v] ∧ KnV H v b ∧ ∀ H', Same H H' → Q (.bl b) H'
def spFn : Sp := fun vs H Q _ => ∃ (x : Str), vs = [.str x] ∧ x.length ≤ sizeLine ∧ ∀ H', Same H H' → Q (.bl (fieldName x)) H'
def spMode : Sp := fun vs H Q _ => ∃ (x : Str), vs = [.str x] ∧ Q (.bl (decide (x ∈ MODESl))) H
def spFldOk : Sp := fun vs H Q _ => ∃ (f : Fld) (v : V) (T : Addr) (ts : List Str), vs = [v, .ref T] ∧ FldAt H f v ∧ H T = some (.lst (ts.map V.str)) ∧ ts.length ≤ 6 ∧ (fieldName f.1 = true ∧ f.2.1 ∈ MODESl ∧ f.2.2 ∈ ts) ∧ kindName f.2.2 = true ∧ ∀ H', Same H H' → Q (.bl true) H'
def spBasesOk : Sp := fun vs H Q _ => ∃ (ss : List Str) (v : V) (d : Addr) (kvs : List (Key × V)), vs = [v, .ref d] ∧ StrsAt H ss v ∧ H d = some (.dK kvs) ∧ ss.length ≤ 3 ∧ ss.Nodup ∧ (∀ x, x ∈ ss → kindName x = true ∧ (valV kvs (.inr x)).isSome = true) ∧ ∀ H', Same H H' → Q (.bl true) H'
def spKInit (C : Addr) : Sp := fun vs H Q _ => ∃ (a dx : Addr) (r : Row) (pre : List Row) (all : List Str) (v : V) (d : Addr) (kvs : List (Key × V)), vs = [.ref a, v, .ref d] ∧ H a = some (.ins C dx []) ∧ RowAt H r v ∧ KnownAt C H pre d kvs ∧ RowsOk all (pre ++ [r]) ∧ pre.length ≤ 5 ∧
  ∀ H', But a H H' → KndAt C H' (pre ++ [r]) r (.ref a) → Q .non H'
def spMkK (C : Addr) : Sp := fun vs H Q _ => ∃ (r : Row) (pre : List Row) (all : List Str) (v : V) (d T : Addr) (kvs : List (Key × V)), vs = [v, .ref d, .ref T] ∧ RowAt H r v ∧ KnownAt C H pre d kvs ∧ H T = some (.lst (all.map V.str)) ∧ RowsOk all (pre ++ [r]) ∧ pre.length ≤ 5 ∧ all.length ≤ 6 ∧ (∀ x, x ∈ all → kindName x = true) ∧
  ∀ a H', H a = none → Same H H' → KndAt C H' (pre ++ [r]) r (.ref a) → Q (.ref a) H'
def spSInit (C D : Addr) : Sp := fun vs H Q _ => ∃ (a dx L : Addr) (rows : List Row), vs = [.ref a, .ref L] ∧ H a = some (.ins D dx []) ∧ RowsAt H L rows ∧ SchOk rows ∧ ∀ H', But a H H' → SchAt C D H' rows a → (∀ dx rv nv dv rvs kvs, SchIn C D H' rows a dx rv nv dv rvs kvs → H dv = none) → Q .non H'
def known (rows : List Row) (v : V) : Prop := ∃ x, v = .str x ∧ x ∈ names rows
end Wm
namespace Wm
open PySem L2 PySem.Spec PySem.W PySem.SeqAt
open PyProof.Rows hiding St
theorem But.refl (a : Addr) (H : Hp) : But a H H := fun _ _ _ e => e
theorem But.same {a : Addr} {H H1 H2 : Hp} (b : But a H H1) (s : Same H1 H2) : But a H H2 := fun c o n e => s _ _ (b c o n e)
theorem But.self {a : Addr} {H H1 : Hp} {o : HO} (b : But a H H1) : But a H (upd H1 a o) := fun c u n e => by
  rw [upd_ne n]
  exact b c u n e
theorem But.put {a q : Addr} {H H1 : Hp} {o : HO} (b : But a H H1) (n : H q = none) : But a H (upd H1 q o) := fun c u m e => by
  rw [upd_ne (ne_of_none e n)]
  exact b c u m e
theorem But.free {a q : Addr} {H H1 : Hp} {o : HO} (b : But a H H1) (ea : H1 a = some o) (e : H1 q = none) : H q = none := by
  cases z : H q with
  | none => rfl
  | some u =>
    by_cases h : q = a
    · rw [h, ea] at e
      cases e
    · rw [b q u h z] at e
      cases e
theorem But.tx {a C dx : Addr} {fs : List (Str × V)} {H H1 : Hp} (b : But a H H1) (e : H a = some (.ins C dx fs)) : Tx H H1 := fun c xs h => b c _ (fun z => by
  rw [z, e] at h
  cases h) h
theorem KnownAt.butI {C d a dx C' : Addr} {H H' : Hp} {rows : List Row} {kvs : List (Key × V)} (h : KnownAt C H rows d kvs) (e : H a = some (.ins C' dx [])) (s : But a H H') : KnownAt C H' rows d kvs := by
  have tx := s.tx e
  refine ⟨s _ _ (fun z => by
    have := h.at_
    rw [z, e] at this
    cases this) h.at_, h.keys, fun r hr => ?_⟩
  obtain ⟨v, e1, k, kdx, bv, ov, la, fa, fvs, e2, h2⟩ := h.knd r hr
  exact ⟨v, e1, k, kdx, bv, ov, la, fa, fvs, e2, s _ _ (fun z => by
    have := h2.at_
    rw [z, e] at this
    cases this) h2.at_, h2.bs.tx tx, h2.own.tx tx, tx _ _ h2.line, tx _ _ h2.flds, all2_f4 h2.f4 tx⟩
theorem own_of {rows : List Row} {r : Row} (nd : (names rows).Nodup) (h : r ∈ rows) : ownOf rows r.name = r.own := by
  induction rows with
  | nil => cases h
  | cons x rows ih =>
    unfold ownOf
    rw [List.find?_cons]
    have ⟨n1, n2⟩ := List.nodup_cons.mp (show (x.name :: names rows).Nodup from nd)
    rcases List.mem_cons.mp h with rfl | h
    · rw [beq_self_eq_true]
    · have hne : (x.name == r.name) = false := by
        rw [beq_eq_false_iff_ne]
        intro z
        exact n1 (z ▸ List.mem_map_of_mem h)
      rw [hne]
      exact ih n2 h
theorem RowsOk.init {all : List Str} {pre : List Row} {r : Row} (h : RowsOk all (pre ++ [r])) : RowsOk all pre := by
  have := h.take pre.length
  rwa [List.take_append_of_le_length (Nat.le_refl _), List.take_length] at this
theorem RowsOk.last {all : List Str} {pre : List Row} {r : Row} (h : RowsOk all (pre ++ [r])) : RowOk all pre r := by
  have := h pre.length r (by simp)
  rwa [List.take_append_of_le_length (Nat.le_refl _), List.take_length] at this
theorem r_ifV {c : Bool} {ta tb : TE} {σ : St} {H : Hp} {Q : VK} (v : V) (h1 : c = true → ∀ R : VK, R v H → ta σ H R) (h2 : c = false → ∀ R : VK, R v H → tb σ H R) (k : Q v H) : if c = true then ta σ H Q else tb σ H Q := by
  cases c
  · exact iteF (h2 rfl _ k)
  · exact iteT (h1 rfl _ k)
theorem kind_split (x : Str) (h1 : 1 ≤ x.length) (h8 : x.length ≤ 8) : ∃ (c : Nat) (r : List Nat), x.cps.toList = c :: r ∧ kindName x = (isUp c && r.all isLow) ∧ (cutS x (some 1) none).cps.toList = r ∧ (cutS x (some 1) none).length = r.length := by
  cases e : x.cps.toList with
  | nil =>
    have : x.length = 0 := by
      show x.cps.size = 0
      rw [← Array.length_toList, e]
      rfl
    omega
  | cons c r =>
    have k : (cutS x (some 1) none).cps.toList = r := by
      exact cut_one e
    refine ⟨c, r, rfl, ?_, k, by rw [← k]; exact (Array.length_toList).symm⟩
    unfold kindName
    rw [e]
    simp [h1, h8]
theorem fieldName_len {x : Str} (h : fieldName x = true) : x.length ≤ 8 := by
  unfold fieldName at h
  simp only [Bool.and_eq_true, decide_eq_true_eq] at h
  exact h.2.1
theorem kindName_len {x : Str} (h : kindName x = true) : x.length ≤ 8 := by
  unfold kindName at h
  simp only [Bool.and_eq_true, decide_eq_true_eq] at h
  exact h.2.1
theorem RowsOk.kn {all : List Str} {rows : List Row} (h : RowsOk all rows) {n : Str} (hn : n ∈ names rows) : kindName n = true := by
  obtain ⟨r, h1, rfl⟩ := mem_row hn
  obtain ⟨k, hk⟩ := List.mem_iff_getElem?.mp h1
  exact (h k r hk).nm
end Wm
namespace Wm
open PySem L2 PySem.Spec PySem.W PySem.SeqAt
open PyProof.Rows hiding St
theorem KndAt.more {C : Addr} {H : Hp} {pre : List Row} {all : List Str} {r0 r : Row} {v : V} (h : KndAt C H pre r0 v) (ok : RowsOk all pre) (hm : r0.name ∈ names pre) : KndAt C H (pre ++ [r]) r0 v := by
  obtain ⟨a, dx, bv, ov, la, fa, fvs, e, k⟩ := h
  exact ⟨a, dx, bv, ov, la, fa, fvs, e, k.at_, k.bs, k.own, by rw [line_keep hm]; exact k.line, k.flds, by rw [fields_keep ok.bs hm]; exact k.f4⟩
theorem KnownAt.add {C : Addr} {H : Hp} {pre : List Row} {all : List Str} {r : Row} {d : Addr} {v : V} {kvs : List (Key × V)} (h : KnownAt C H pre d kvs) (hok : RowsOk all (pre ++ [r])) (hv : KndAt C H (pre ++ [r]) r v) :
    KnownAt C (upd H d (.dK (kvs ++ [(.inr r.name, v)]))) (pre ++ [r]) d (kvs ++ [(.inr r.name, v)]) := by
  have hn := known_none h hok.last.fresh
  have but : But d H (upd H d (.dK (kvs ++ [(.inr r.name, v)]))) := (But.refl d H).self
  refine ⟨upd_same, by simp [h.keys, names], fun r0 hr0 => ?_⟩
  rcases List.mem_append.mp hr0 with z | z
  · obtain ⟨v0, e0, k0⟩ := h.knd r0 z
    have hm : r0.name ∈ names pre := List.mem_map_of_mem z
    refine ⟨v0, ?_, (k0.more hok.init hm).but h.at_ but⟩
    rw [valV_snoc _ _ _ _ hn, if_neg (fun q => hok.last.fresh (by have z := Sum.inr.inj q; rw [← z]; exact hm)), e0]
  · simp only [List.mem_cons, List.not_mem_nil, or_false] at z
    subst z
    exact ⟨v, by rw [valV_snoc _ _ _ _ hn, if_pos rfl], hv.but h.at_ but⟩
theorem same_lock {H H' : Hp} {d : Addr} {u w : HO} (e : H d = some u) (s : Same (upd H d w) H') : Same H (upd H' d u) := fun b o h => by
  by_cases z : b = d
  · subst z
    rw [e] at h
    cases h
    exact upd_same
  · rw [upd_ne z]
    exact s _ _ (by rw [upd_ne z]; exact h)
theorem key_at {C d : Addr} {H : Hp} {rows : List Row} {kvs : List (Key × V)} {i : Nat} {k : Key} {v : V} {r : Row} (h : KnownAt C H rows d kvs) (e : kvs[i]? = some (k, v)) (hr : rows[i]? = some r) : k = .inr r.name := by
  have z : (kvs.map (·.1))[i]? = some k := by rw [List.getElem?_map, e] <;> rfl
  rw [h.keys, List.getElem?_map] at z
  unfold names at z
  rw [List.getElem?_map, hr] at z
  exact (Option.some.inj z).symm
theorem keys_v {C d : Addr} {H : Hp} {rows : List Row} {kvs : List (Key × V)} (h : KnownAt C H rows d kvs) : (kvs.map fun kv => kV kv.1) = (names rows).map V.str := by
  rw [show (kvs.map fun kv => kV kv.1) = (kvs.map (·.1)).map kV from by rw [List.map_map]; rfl, h.keys, List.map_map]
  rfl
theorem RowsAt.at {H : Hp} {L i : Nat} {rows : List Row} {vs : List V} (h : All2 (RowAt H) rows vs) {v : V} (e : vs[i]? = some v) : ∃ r, rows[i]? = some r ∧ RowAt H r v := h.right e
theorem all_abs {rows : List Row} (h : ∃ r, r ∈ rows ∧ r.abs = false) : (rows.map (·.abs)).all id = false := by
  obtain ⟨r, h1, h2⟩ := h
  rw [List.all_eq_false]
  exact ⟨r.abs, List.mem_map_of_mem h1, by simp [h2]⟩
theorem KnownAt.butF {C d a dx C' : Addr} {fs : List (Str × V)} {H H' : Hp} {rows : List Row} {kvs : List (Key × V)} (h : KnownAt C H rows d kvs) (hl : fs.length < 6) (e : H a = some (.ins C' dx fs)) (s : But a H H') : KnownAt C H' rows d kvs := by
  have tx := s.tx e
  refine ⟨s _ _ (fun z => by
    have := h.at_
    rw [z, e] at this
    cases this) h.at_, h.keys, fun r hr => ?_⟩
  obtain ⟨v, e1, k, kdx, bv, ov, la, fa, fvs, e2, h2⟩ := h.knd r hr
  exact ⟨v, e1, k, kdx, bv, ov, la, fa, fvs, e2, s _ _ (fun z => by
    have := h2.at_
    rw [z, e] at this
    have q := (HO.ins.inj (Option.some.inj this)).2.2
    rw [q] at hl
    simp [kfs] at hl) h2.at_, h2.bs.tx tx, h2.own.tx tx, tx _ _ h2.line, tx _ _ h2.flds, all2_f4 h2.f4 tx⟩
end Wm
namespace Wm
open PySem L2 PySem.Spec PySem.W PySem.SeqAt
open PyProof.Rows hiding St
def badK (rows : List Row) (v : V) : Prop := ∀ n, v = .str n → n ∉ names rows
theorem KnV.same {H H' : Hp} {v : V} {b : Bool} (h : KnV H v b) (s : Same H H') : KnV H' v b := h.imp id fun ⟨a, c⟩ => ⟨a.same s, c⟩
def GotK (ad : Addr) (H : Hp) (E : XK) (v : V) : Prop := ∀ d H', Same H H' → H d = none → H' d = some (.xd [("kind", v)]) → E (.ref ad) (some d) H'
def spGet (C D N : Addr) : Sp := fun vs H Q E => ∃ (S : Addr) (rows : List Row) (v : V) (b : Bool), vs = [.ref S, v] ∧ SchAt C D H rows S ∧ SchOk rows ∧ KnV H v b ∧
  (∀ r kv H', v = .str r.name → r ∈ rows → Same H H' → KndAt C H' rows r kv → Q kv H') ∧ (badK rows v → GotK N H E v)
def spUnd (C D N : Addr) : Sp := fun vs H Q E => ∃ (S : Addr) (rows : List Row) (v : V) (b : Bool), vs = [.ref S, v] ∧ SchAt C D H rows S ∧ SchOk rows ∧ KnV H v b ∧
  (∀ n q H', v = .str n → n ∈ names rows → Same H H' → H q = none → H' q = some (.lst ((underF rows n).map V.str)) → Q (.ref q) H') ∧ (badK rows v → GotK N H E v)
theorem GotK.same {N : Addr} {H H1 : Hp} {E : XK} {v : V} (h : GotK N H E v) (s : Same H H1) : GotK N H1 E v := fun d H' s' n e => h d H' (s.trans s') (s.free n) e
theorem under_rows (rows : List Row) (n : Str) : underF rows n = (rows.filter fun r => !r.abs && decide (n ∈ lineF rows r.name)).map (·.name) := by
  unfold underF concF
  rw [List.filter_map, List.filter_filter]
  congr 1
  apply List.filter_congr
  intro r _
  simp [Bool.and_comm]
end Wm
namespace Wm
open PySem L2 PySem.Spec PySem.W PySem.SeqAt
open PyProof.Rows hiding St
section
variable {X : Cx}
def oneV (v : V) : Prop := flatB v = true ∨ ∃ a, v = .ref a
theorem AnyV.one {H : Hp} {v : V} (h : AnyV H v) : oneV v := by
  cases v with
  | non => exact .inl rfl
  | bl b => exact .inl rfl
  | int i => exact .inl rfl
  | str x => exact .inl rfl
  | ref a => exact .inr ⟨a, rfl⟩
  | _ => exact h.elim
end
end Wm
namespace Wm
open PySem L2 PySem.Spec PySem.W PySem.SeqAt
open PyProof.Rows hiding St
theorem kn_str {H : Hp} {x : Str} (h : x.length ≤ 8) : KnV H (.str x) (kindName x) := .inl ⟨x, rfl, by rw [PySem.sizeLine_eq]; omega, rfl⟩
def Wrong (p : Addr) (H : Hp) (rows : List Row) (v : V) : Prop := OddV p H v ∧ (∃ b, ∀ H', AnyV H' v → KnV H' v b) ∧ badK rows v
theorem Wrong.kn {p : Addr} {H H' : Hp} {rows : List Row} {v : V} (h : Wrong p H rows v) (s : Same H H') : ∃ b, KnV H' v b := by
  obtain ⟨o, ⟨b, k⟩, _⟩ := h
  exact ⟨b, k H' (o.1.same s)⟩
theorem Wrong.same {p : Addr} {H H' : Hp} {rows : List Row} {v : V} (h : Wrong p H rows v) (s : Same H H') : Wrong p H' rows v := ⟨h.1.same s, h.2⟩
theorem Wrong.step {p c : Addr} {H H' : Hp} {rows : List Row} {v : V} (h : Wrong p H rows v) (s : PenStep p c H H') : Wrong p H' rows v := ⟨h.1.step s, h.2⟩
end Wm
namespace Wm
open PySem L2 PySem.Spec PySem.W PySem.SeqAt
open PyProof.Rows hiding St
end Wm
namespace Wm
open PySem L2 PySem.Spec PySem.W PySem.SeqAt
open PyProof.Rows hiding St
section
variable {X : Cx} {pins : List (Addr × Obj)} {σ : St} {H : Hp} {s : Shared}
end
end Wm
namespace Wm
open PySem L2 PySem.Spec PySem.W PySem.SeqAt Sem
open PyProof.Rows hiding St
end Wm
namespace Wm
open PySem L2 PySem.Spec PySem.W PySem.SeqAt
open PyProof.Rows hiding St
end Wm
namespace Wm
open PySem L2 PySem.Spec PySem.W PySem.SeqAt Sem
open PyProof.Rows hiding St
end Wm
namespace Wm
open PySem L2 PySem.Spec PySem.W PySem.SeqAt
open PyProof.Rows hiding St
abbrev FldD := T3 Str Str Str
abbrev RowD := T4 Str (Tup Str) Bool (Tup FldD)
def fldD (f : Fld) : FldD := ⟨f.1, f.2.1, f.2.2⟩
def rowD (r : Row) : RowD := ⟨r.name, ⟨r.bases⟩, r.abs, ⟨r.own.map fldD⟩⟩
theorem fldD_inj {f g : Fld} (h : fldD f = fldD g) : f = g := by
  obtain ⟨a, b, c⟩ := f
  obtain ⟨a', b', c'⟩ := g
  cases h
  rfl
theorem map_inj {α β : Type} {f : α → β} (hf : ∀ a b, f a = f b → a = b) : ∀ {l m : List α}, l.map f = m.map f → l = m
  | [], [], _ => rfl
  | [], b :: m, h => by cases h
  | a :: l, [], h => by cases h
  | a :: l, b :: m, h => by
    simp only [List.map_cons, List.cons.injEq] at h
    rw [hf _ _ h.1, map_inj hf h.2]
theorem rowD_inj {r s : Row} (h : rowD r = rowD s) : r = s := by
  obtain ⟨n, b, a, o⟩ := r
  obtain ⟨n', b', a', o'⟩ := s
  unfold rowD at h
  simp only [T4.mk.injEq, Tup.mk.injEq] at h
  obtain ⟨rfl, rfl, rfl, h⟩ := h
  rw [map_inj (fun _ _ => fldD_inj) h]
theorem rowsD_iff {rows more : List Row} : rows.map rowD = more.map rowD ↔ rows = more := ⟨fun h => map_inj (fun _ _ => rowD_inj) h, fun h => by rw [h]⟩
section
variable {K : PySem.W.Frag} {H : Hp}
theorem dp_fld {f : Fld} {v : V} (h : FldAt H f v) : Dp K H v (Datum.toD (fldD f)) := by
  obtain ⟨a, rfl, e⟩ := h
  exact .tup (.of e) (.cons (.str _) (.cons (.str _) (.cons (.str _) .nil)))
theorem dps_of {α : Type} {β : Type} [DecidableEq β] [Datum β] {R : α → V → Prop} {g : α → β} (hR : ∀ a v, R a v → Dp K H v (Datum.toD (g a))) : ∀ {l : List α} {vs : List V}, All2 R l vs → DpAll K H vs ((l.map g).map Datum.toD)
  | _, _, .nil => .nil
  | _, _, .cons h r => .cons (hR _ _ h) (dps_of hR r)
theorem dp_flds {fs : List Fld} {v : V} (h : FldsAt H fs v) : Dp K H v (Datum.toD (Tup.mk (fs.map fldD))) := by
  obtain ⟨a, vs, rfl, e, r⟩ := h
  exact .tup (.of e) (dps_of (g := fldD) (fun _ _ => dp_fld) r)
theorem dp_strsV {ss : List Str} {v : V} (h : StrsAt H ss v) : Dp K H v (Datum.toD (Tup.mk ss)) := by
  obtain ⟨a, rfl, e⟩ := h
  exact dp_strsT e
theorem dp_row {r : Row} {v : V} (h : RowAt H r v) : Dp K H v (Datum.toD (rowD r)) := by
  obtain ⟨a, bv, ov, rfl, e, hb, ho⟩ := h
  exact .tup (.of e) (.cons (.str _) (.cons (dp_strsV hb) (.cons (.bl _) (.cons (dp_flds ho) .nil))))
theorem dp_rowsT {L : Addr} {rows : List Row} {vs : List V} (e : H L = some (.tup vs)) (r : All2 (RowAt H) rows vs) : Dp K H (.ref L) (Datum.toD (Tup.mk (rows.map rowD))) := .tup (.of e) (dps_of (g := rowD) (fun _ _ => dp_row) r)
end
theorem ite_ns {α : Type} {x : α} [d : Decidable (x = x)] {A B : Prop} (h : B) : if (!decide (x = x)) = true then A else B := by
  rw [if_neg (by simp)]
  exact h
theorem ite_es {α : Type} {x : α} [d : Decidable (x = x)] {A B : Prop} (h : A) : if (decide (x = x)) = true then A else B := by
  rw [if_pos (by simp)]
  exact h
theorem flat_ge {α β : Type} {f : α → List β} {x : α} : ∀ {l : List α}, x ∈ l → (f x).length ≤ (l.flatMap f).length
  | [], h => by cases h
  | y :: l, h => by
    rw [List.flatMap_cons, List.length_append]
    rcases List.mem_cons.mp h with rfl | h
    · omega
    · have := flat_ge (f := f) h
      omega
theorem RowsOk.own_len {all : List Str} {rows : List Row} {r : Row} (h : RowsOk all rows) (hr : r ∈ rows) : r.own.length ≤ 4 := by
  obtain ⟨k, e⟩ := List.mem_iff_getElem?.mp hr
  have ok := h k r e
  have hm : r.name ∈ (lineF (rows.take k ++ [r]) r.name).reverse := by
    rw [List.mem_reverse, line_new ok.fresh, mem_last]
    exact List.mem_cons_self
  have := flat_ge (f := fun o => (ownOf (rows.take k ++ [r]) o).map fun f => ((f.1, f.2.1, f.2.2, o) : Fld4)) hm
  have h4 := ok.flen
  unfold fieldsF at h4
  rw [own_new ok.fresh, List.length_map] at this
  omega
def KpL (H H' : Hp) : Prop := ∀ a o, H a = some o → (∀ xs, o ≠ .lst xs) → H' a = some o
theorem KpL.refl (H : Hp) : KpL H H := fun _ _ h _ => h
theorem KpL.trans {H H1 H2 : Hp} (a : KpL H H1) (b : KpL H1 H2) : KpL H H2 := fun c o h n => b c o (a c o h n) n
theorem KpL.tx {H H' : Hp} (k : KpL H H') : Tx H H' := fun a xs e => k a _ e fun _ z => by cases z
theorem row_uniq {rows : List Row} {r s : Row} (nd : (names rows).Nodup) (hr : r ∈ rows) (hs : s ∈ rows) (e : r.name = s.name) : r = s := by
  induction rows with
  | nil => cases hr
  | cons x l ih =>
    unfold names at nd ih
    rw [List.map_cons, List.nodup_cons] at nd
    rcases List.mem_cons.mp hr with rfl | h1
    · rcases List.mem_cons.mp hs with rfl | h2
      · rfl
      · exact absurd (List.mem_map.mpr ⟨s, h2, e.symm⟩) nd.1
    · rcases List.mem_cons.mp hs with rfl | h2
      · exact absurd (List.mem_map.mpr ⟨r, h1, e⟩) nd.1
      · exact ih nd.2 h1 h2
def SchN (C D : Addr) (H : Hp) (rows : List Row) (S p : Addr) : Prop := ∃ dx rv nv dv rvs kvs, SchIn C D H rows S dx rv nv dv rvs kvs ∧ dv ≠ p
theorem SchN.of {C D S p : Addr} {H H0 : Hp} {rows : List Row} (h : SchAt C D H rows S) (nd : ∀ dx rv nv dv rvs kvs, SchIn C D H rows S dx rv nv dv rvs kvs → H0 dv = none) (hp : ∃ o, H0 p = some o) : SchN C D H rows S p := by
  obtain ⟨dx, rv, nv, dv, rvs, kvs, h⟩ := h
  refine ⟨dx, rv, nv, dv, rvs, kvs, h, fun z => ?_⟩
  obtain ⟨o, e⟩ := hp
  have := nd _ _ _ _ _ _ h
  rw [z, e] at this
  cases this
theorem SchN.same {C D S p : Addr} {H H' : Hp} {rows : List Row} (h : SchN C D H rows S p) (s : Same H H') : SchN C D H' rows S p := by
  obtain ⟨dx, rv, nv, dv, rvs, kvs, h, n⟩ := h
  exact ⟨dx, rv, nv, dv, rvs, kvs, ⟨s _ _ h.at_, s _ _ h.rws, all2_rows h.rall (tx_same s), s _ _ h.nms, h.kn.same s⟩, n⟩
theorem SchN.step {C D S p c : Addr} {H H' : Hp} {rows : List Row} (h : SchN C D H rows S p) (hp : PenAt H p c) (s : PenStep p c H H') : SchN C D H' rows S p := by
  obtain ⟨dx, rv, nv, dv, rvs, kvs, h, n⟩ := h
  have t := tx_step hp s
  exact ⟨dx, rv, nv, dv, rvs, kvs, ⟨s.at hp h.at_ rfl, t _ _ h.rws, all2_rows h.rall t, t _ _ h.nms, s.atd h.kn.at_ n, h.kn.keys, fun r hr => by
    obtain ⟨v, hv, kn⟩ := h.kn.knd r hr
    exact ⟨v, hv, kn.step hp s⟩⟩, n⟩
def spSEq (C D : Addr) : Sp := fun vs H Q _ => ∃ (S T : Addr) (rows more : List Row), vs = [.ref S, .ref T] ∧ SchAt C D H rows S ∧ SchAt C D H more T ∧ Q (.bl (decide (rows.map rowD = more.map rowD))) H
end Wm
namespace Wm
open PySem L2 PySem.Spec PySem.W PySem.SeqAt
open PyProof.Rows hiding St
def tStarA (K : PySem.W.Frag) (te : TE) (t : TA) : TA := fun σ H Q => te σ H fun y H1 => ∃ a xs, y = .ref a ∧ (SqT K H1 a xs ∨ SqL K H1 a xs) ∧ t σ H1 fun ys H2 => Q (xs ++ ys) H2
theorem r_starA {K : PySem.W.Frag} {te : TE} {t : TA} {σ : St} {H : Hp} {Q : List V → Hp → Prop} (h : te σ H fun y H1 => ∃ a xs, y = .ref a ∧ (SqT K H1 a xs ∨ SqL K H1 a xs) ∧ t σ H1 fun ys H2 => Q (xs ++ ys) H2) : tStarA K te t σ H Q := h
theorem app_list (a b : Str) : (a ++ b).cps.toList = a.cps.toList ++ b.cps.toList := by
  show (a.cps ++ b.cps).toList = _
  simp
theorem str_ext {a b : Str} (h : a.cps.toList = b.cps.toList) : a = b := Str.ext' (Array.toList_inj.mp h)
theorem join_c2 (y a b : Str) (l : List Str) : Str.join y (a :: b :: l) = a ++ y ++ Str.join y (b :: l) := rfl
theorem cut_eq {c : Nat} : ∀ {a b x y : List Nat}, c ∉ a → c ∉ b → a ++ c :: x = b ++ c :: y → a = b ∧ x = y
  | [], [], x, y, _, _, h => ⟨rfl, (List.cons.inj h).2⟩
  | [], b :: bs, x, y, _, hb, h => by
    have := (List.cons.inj h).1
    exact absurd (by simp [this]) hb
  | a :: as, [], x, y, ha, _, h => by
    have := (List.cons.inj h).1
    exact absurd (by simp [this]) ha
  | a :: as, b :: bs, x, y, ha, hb, h => by
    obtain ⟨h1, h2⟩ := List.cons.inj h
    obtain ⟨h3, h4⟩ := cut_eq (fun z => ha (List.mem_cons_of_mem _ z)) (fun z => hb (List.mem_cons_of_mem _ z)) h2
    exact ⟨by rw [h1, h3], h4⟩
end Wm
namespace Wm
open PySem L2 PySem.Spec PySem.W PySem.SeqAt
open PyProof.Rows hiding St
section
variable {X : Cx} {CX : CXT} {k : Nat} {f C : Addr} {fd : FuncData} {ps : List Str} {ds : List Value} {dvs : List V} {sp : Sp} {E : XK} {x : Str} {p pos : Pos} {e : Expr} {es : List Expr} {t : TA}
def tMakeL (i : Nat) (C : Addr) (sp : Sp) (dvs : List V) (E : XK) (t : TA) : TE := fun σ H Q => σ[i]? = some (some (.ref C)) ∧ tMake C sp dvs E t σ H Q
theorem r_makeL {σ : St} {H : Hp} {Q : VK} {i : Nat} (hs : σ[i]? = some (some (.ref C))) (h : tMake C sp dvs E t σ H Q) : tMakeL i C sp dvs E t σ H Q := ⟨hs, h⟩
end
theorem r_ifW {c : TTw} {t u : TS} {D : Ends} {σ : St} {H : Hp} (h : c σ H fun k σ1 H1 => if k = true then t D σ1 H1 else u D σ1 H1) : tIfW c t u D σ H := h
theorem r_wCmp {r : R2} {ta : TEw} {tb : TE} {σ : St} {H : Hp} {Q : Bool → St → Hp → Prop} (h : ta σ H fun x σ1 H1 => tb σ1 H1 fun y H2 => r x y H2 fun z H3 => ∃ k, z = .bl k ∧ Q k σ1 H3) : wCmp r ta tb σ H Q := h
theorem r_wNm {t : TEw} {i : Nat} {σ : St} {H : Hp} {Q : V → St → Hp → Prop} (h : t σ H fun x σ1 H1 => Q x (σ1.set i (some x)) H1) : wNm t i σ H Q := h
theorem r_wE {t : TE} {σ : St} {H : Hp} {Q : V → St → Hp → Prop} (h : t σ H fun x H1 => Q x σ H1) : wE t σ H Q := h
end Wm
namespace Wm
open PySem L2 PySem.Spec PySem.W PySem.SeqAt
open PyProof.Rows hiding St
def RowForm (r : Row) : Prop := kindName r.name = true ∧ r.bases.all kindName = true ∧ ∀ f, f ∈ r.own → fieldName f.1 = true ∧ f.2.1 ∈ MODESl ∧ kindName f.2.2 = true
theorem SchOk.forms {rows : List Row} (h : SchOk rows) : ∀ r, r ∈ rows → RowForm r := fun r hr => by
  obtain ⟨k, e⟩ := List.mem_iff_getElem?.mp hr
  have ok := h.ok k r e
  refine ⟨ok.nm, List.all_eq_true.mpr fun b hb => h.ok.kn ?_, fun f hf => ⟨(ok.own f hf).1, (ok.own f hf).2.1, h.ok.kn (ok.own f hf).2.2⟩⟩
  have := ok.bsub b hb
  unfold names at this ⊢
  obtain ⟨x, hx, e⟩ := List.mem_map.mp this
  exact List.mem_map.mpr ⟨x, List.mem_of_mem_take hx, e⟩
end Wm
namespace Wm
open PySem L2 PySem.Spec PySem.W PySem.SeqAt
open PyProof.Rows hiding St
structure RowSm (r : Row) : Prop where
  form : RowForm r
  bl : r.bases.length ≤ 3
  ol : r.own.length ≤ 4
theorem SchOk.sm {rows : List Row} (h : SchOk rows) {r : Row} (hr : r ∈ rows) : RowSm r := by
  obtain ⟨k, e⟩ := List.mem_iff_getElem?.mp hr
  exact ⟨h.forms r hr, (h.ok k r e).blen, h.ok.own_len hr⟩
end Wm
namespace Wm
open PySem L2 PySem.Spec PySem.W PySem.SeqAt
open PyProof.Rows hiding St
def blBk (Q : VK) : VK := fun v H' => ∃ b, v = .bl b ∧ Q (.bl b) H'
def nbBk (Q : VK) : VK := fun v H' => ∃ b, v = .bl b ∧ Q (.bl (!b)) H'
def rInOwn (C : Addr) (sp : Sp) (E : XK) : R2 := fun x y H Q => ∃ a dx fs, y = .ref a ∧ H a = some (.ins C dx fs) ∧ sp [.ref a, x] H (blBk Q) E
def rNotInOwn (C : Addr) (sp : Sp) (E : XK) : R2 := fun x y H Q => ∃ a dx fs, y = .ref a ∧ H a = some (.ins C dx fs) ∧ sp [.ref a, x] H (nbBk Q) E
section
variable {X : Cx} {CX : CXT} {C f : Addr} {fd : FuncData} {ps : List Str} {k : Nat} {sp : Sp} {E : XK}
theorem op_inOwn (F : FnOk X.prog X.w X.K X.mg X.base CX k f fd ps sp) (hr : Room k X.A) (hm : Meth X.K C "__contains__" f) (hb : Binds X.K fd ps []) (hx : Passes CX X E) : OpR X (compareOp .In) (rInOwn C sp E) := by
  intro pins s σ H x y v u Q I rx ry hq
  obtain ⟨a, dx, fs, rfl, ha, hsp⟩ := hq
  cases ry
  obtain ⟨mA, J, _⟩ := ins_get I.hok ha
  obtain ⟨od, J, _⟩ := J.look
  obtain ⟨m, hF⟩ := I.fr
  refine PySem.W.in_K hF I.ok.mod.kin J hm.at_ hm.fn ?_
  refine wpAny_mono (run_fn F hr hb .nil hx I (vs := [.ref a, x]) (us := [.ref a, v]) (.cons rfl (.cons rx .nil)) hsp) (fun r s' z => ?_) fun _ _ e => e
  obtain ⟨v', H', I', rv, b, rfl, q⟩ := z
  cases rv
  exact wpAny_truthy_bool ⟨.bl b, H', I', rfl, q⟩
theorem op_notInOwn (F : FnOk X.prog X.w X.K X.mg X.base CX k f fd ps sp) (hr : Room k X.A) (hm : Meth X.K C "__contains__" f) (hb : Binds X.K fd ps []) (hx : Passes CX X E) : OpR X (compareOp .NotIn) (rNotInOwn C sp E) := by
  intro pins s σ H x y v u Q I rx ry hq
  obtain ⟨a, dx, fs, rfl, ha, hsp⟩ := hq
  cases ry
  obtain ⟨mA, J, _⟩ := ins_get I.hok ha
  obtain ⟨od, J, _⟩ := J.look
  obtain ⟨m, hF⟩ := I.fr
  refine PySem.W.notIn_K hF I.ok.mod.kin J hm.at_ hm.fn ?_
  refine wpAny_mono (run_fn F hr hb .nil hx I (vs := [.ref a, x]) (us := [.ref a, v]) (.cons rfl (.cons rx .nil)) hsp) (fun r s' z => ?_) fun _ _ e => e
  obtain ⟨v', H', I', rv, b, rfl, q⟩ := z
  cases rv
  exact wpAny_truthy_bool ⟨.bl (!b), H', I', rfl, q⟩
end
theorem r_inOwn {C o dx : Addr} {fs : List (Str × V)} {sp : Sp} {E : XK} {x : V} {H : Hp} {Q : VK} (h : H o = some (.ins C dx fs)) (q : sp [.ref o, x] H (blBk Q) E) : rInOwn C sp E x (.ref o) H Q := ⟨o, dx, fs, rfl, h, q⟩
theorem r_notInOwn {C o dx : Addr} {fs : List (Str × V)} {sp : Sp} {E : XK} {x : V} {H : Hp} {Q : VK} (h : H o = some (.ins C dx fs)) (q : sp [.ref o, x] H (nbBk Q) E) : rNotInOwn C sp E x (.ref o) H Q := ⟨o, dx, fs, rfl, h, q⟩
end Wm
namespace Wm
open PySem L2 PySem.Spec PySem.W PySem.SeqAt
open PyProof.Rows hiding St
structure G5 where
  m : Str
  a : Str
  b : Str
  k : Str
  e : Str
def G5.l (g : G5) : List Str := [g.m, g.a, g.b, g.k, g.e]
structure G5Ok (g : G5) : Prop where
  m : g.m ∈ MARKSl
  a : g.a ∈ ACTSl
  b : g.b ∈ BYl
  k : g.k ∈ KEEPSl
  e : g.e ∈ BYl
  pl : plain5 g.m g.a g.b g.k g.e = g.l
def noG : G5 := ⟨"none", "ring", "same", "none", "same"⟩
structure Wk where
  start : Str
  gs : List (Str × G5)
  out : List (Str × Str)
  anew : List (Str × Str)
  lim : Option Nat
  frees : Bool
def ownPairs (rows : List Row) : List (Str × Str) := rows.flatMap fun r => r.own.map fun f => (r.name, f.1)
structure WkOk (rows : List Row) (w : Wk) : Prop where
  st : w.start ∈ names rows
  un : underF rows w.start ≠ []
  gs : (w.gs.map (·.1)).Sublist (names rows)
  g5 : ∀ x, x ∈ w.gs → G5Ok x.2
  out : w.out.Sublist (ownPairs rows)
  anew : w.anew.Sublist (ownPairs rows)
  dis : ∀ x, x ∈ w.out → x ∉ w.anew
  lim : ∀ n, w.lim = some n → n ≤ 20
def limV : Option Nat → V
  | none => .non
  | some n => .int (n : Nat)
def G5At (H : Hp) (g : G5) (v : V) : Prop := ∃ q, v = .ref q ∧ H q = some (.tup (g.l.map V.str))
def GPairAt (H : Hp) (x : Str × G5) (kv : Key × V) : Prop := kv.1 = .inr x.1 ∧ G5At H x.2 kv.2
def wkvs (gd ol al : Addr) (lim : V) (fr : Bool) (st : V) : List (Key × V) := [(.inr "guards", .ref gd), (.inr "out", .ref ol), (.inr "anew", .ref al), (.inr "limit", lim), (.inr "frees", .bl fr), (.inr "start", st)]
structure WkIn (H : Hp) (w : Wk) (W gd ol al : Addr) (gvs : List (Key × V)) (ovs avs : List V) : Prop where
  at_ : H W = some (.dK (wkvs gd ol al (limV w.lim) w.frees (.str w.start)))
  gat : H gd = some (.dK gvs)
  g : All2 (GPairAt H) w.gs gvs
  oat : H ol = some (.lst ovs)
  o : All2 (PairAt H) w.out ovs
  aat : H al = some (.lst avs)
  a : All2 (PairAt H) w.anew avs
def WkAt (H : Hp) (w : Wk) (W p : Addr) : Prop := ∃ gd ol al gvs ovs avs, WkIn H w W gd ol al gvs ovs avs ∧ W ≠ p ∧ gd ≠ p ∧ W ≠ gd
theorem GPairAt.tx {H H' : Hp} {x : Str × G5} {kv : Key × V} (h : GPairAt H x kv) (t : Tx H H') : GPairAt H' x kv := by
  obtain ⟨h1, q, h2, h3⟩ := h
  exact ⟨h1, q, h2, t _ _ h3⟩
theorem WkAt.same {H H' : Hp} {w : Wk} {W p : Addr} (h : WkAt H w W p) (s : Same H H') : WkAt H' w W p := by
  obtain ⟨gd, ol, al, gvs, ovs, avs, i, n1, n2⟩ := h
  have t := tx_same s
  exact ⟨gd, ol, al, gvs, ovs, avs, ⟨s _ _ i.at_, s _ _ i.gat, i.g.mono (fun _ _ z => z.tx t), s _ _ i.oat, all2_pairs i.o t, s _ _ i.aat, all2_pairs i.a t⟩, n1, n2⟩
theorem WkAt.step {H H' : Hp} {w : Wk} {W p c : Addr} (h : WkAt H w W p) (hp : PenAt H p c) (s : PenStep p c H H') : WkAt H' w W p := by
  obtain ⟨gd, ol, al, gvs, ovs, avs, i, n1, n2⟩ := h
  have t := tx_step hp s
  exact ⟨gd, ol, al, gvs, ovs, avs, ⟨s.atd i.at_ n1, s.atd i.gat n2.1, i.g.mono (fun _ _ z => z.tx t), s.at hp i.oat rfl, all2_pairs i.o t, s.at hp i.aat rfl, all2_pairs i.a t⟩, n1, n2⟩
theorem r_ifG {t u : TE} {b : Bool} {σ : St} {H : Hp} {Q : VK} (G : V → Hp → Prop) (ht : b = true → ∀ R : VK, (∀ v H', G v H' → R v H') → t σ H R) (hu : b = false → ∀ R : VK, (∀ v H', G v H' → R v H') → u σ H R) (k : ∀ v H', G v H' → Q v H') : if b = true then t σ H Q else u σ H Q := by
  cases b
  · exact hu rfl _ k
  · exact ht rfl _ k
def GuAt (C : Addr) (H : Hp) (g : G5) (v : V) : Prop := ∃ a dx, v = .ref a ∧ H a = some (.ins C dx (gfs g.l))
theorem GuAt.same {C : Addr} {H H' : Hp} {g : G5} {v : V} (h : GuAt C H g v) (s : Same H H') : GuAt C H' g v := by
  obtain ⟨a, dx, rfl, e⟩ := h
  exact ⟨a, dx, rfl, s _ _ e⟩
def spGMade (C : Addr) : Sp := fun vs H Q _ => ∃ (v : V) (g : G5), vs = [v] ∧ G5At H g v ∧ G5Ok g ∧ ∀ a H', Same H H' → H a = none → GuAt C H' g (.ref a) → Q (.ref a) H'
def spPick : Sp := fun vs H Q _ => ∃ (p c L : Addr) (xs : List V), vs = [.ref p, .ref L] ∧ PenAt H p c ∧ H L = some (.lst xs) ∧ 1 ≤ xs.length ∧ xs.length ≤ 1000 ∧ ∀ v H', v ∈ xs → PenStep p c H H' → Q v H'
def spGDrawn : Sp := fun vs H Q _ => ∃ (p c : Addr), vs = [.ref p] ∧ PenAt H p c ∧ ∀ g q H', G5Ok g → PenStep p c H H' → H q = none → H' q = some (.tup (g.l.map V.str)) → Q (.ref q) H'
def spWalker : Sp := fun vs H Q _ => ∃ (p c L : Addr) (rows : List Row), vs = [.ref p, .ref L] ∧ PenAt H p c ∧ RowsAt H L rows ∧ SchOk rows ∧ ∀ w W H', WkOk rows w → PenStep p c H H' → H W = none → WkAt H' w W p → Q (.ref W) H'
end Wm
namespace Wm
open PySem L2 PySem.Spec PySem.W PySem.SeqAt
open PyProof.Rows hiding St
theorem self_line {all : List Str} {rows : List Row} {r : Row} (ok : RowsOk all rows) (hr : r ∈ rows) : r.name ∈ lineF rows r.name := by
  obtain ⟨k, e⟩ := List.mem_iff_getElem?.mp hr
  have okr := ok k r e
  have hk := (List.getElem?_eq_some_iff.mp e).1
  have e2 : rows = (rows.take k ++ [r]) ++ rows.drop (k + 1) := by
    conv => lhs; rw [← List.take_append_drop (k + 1) rows]
    rw [take_more e]
  rw [e2, line_keeps (by simp [names]), line_new okr.fresh, mem_last]
  exact List.mem_cons_self
theorem under_self {all : List Str} {rows : List Row} {r : Row} (ok : RowsOk all rows) (hr : r ∈ rows) (ha : r.abs = false) : r.name ∈ underF rows r.name := by
  unfold underF concF
  rw [List.mem_filter]
  exact ⟨List.mem_map.mpr ⟨r, List.mem_filter.mpr ⟨hr, by simp [ha]⟩, rfl⟩, by simpa using self_line ok hr⟩
theorem piece_nd {α β : Type} {f : α → List β} {x : α} : ∀ {l : List α}, x ∈ l → (l.flatMap f).Nodup → (f x).Nodup
  | [], h, _ => by cases h
  | y :: l, h, nd => by
    rw [List.flatMap_cons, List.nodup_append] at nd
    rcases List.mem_cons.mp h with rfl | h
    · exact nd.1
    · exact piece_nd h nd.2.1
theorem RowsOk.own_nd {all : List Str} {rows : List Row} {r : Row} (ok : RowsOk all rows) (hr : r ∈ rows) : (r.own.map (·.1)).Nodup := by
  obtain ⟨k, e⟩ := List.mem_iff_getElem?.mp hr
  have okr := ok k r e
  have h := okr.fnd
  unfold fieldsF at h
  rw [List.map_flatMap] at h
  have hm : r.name ∈ (lineF (rows.take k ++ [r]) r.name).reverse := by
    rw [List.mem_reverse, line_new okr.fresh, mem_last]
    exact List.mem_cons_self
  have := piece_nd hm h
  rwa [own_new okr.fresh, List.map_map] at this
theorem nd_map_on {α β : Type} {f : α → β} (hf : ∀ a b, f a = f b → a = b) : ∀ {l : List α}, l.Nodup → (l.map f).Nodup
  | [], _ => List.Pairwise.nil
  | a :: l, h => by
    rw [List.nodup_cons] at h
    rw [List.map_cons, List.nodup_cons]
    refine ⟨fun z => ?_, nd_map_on hf h.2⟩
    obtain ⟨b, hb, e⟩ := List.mem_map.mp z
    exact h.1 (hf _ _ e ▸ hb)
theorem own_pairs_mem {rows : List Row} {x : Str × Str} (h : x ∈ ownPairs rows) : x.1 ∈ names rows := by
  unfold ownPairs at h
  obtain ⟨r, hr, h⟩ := List.mem_flatMap.mp h
  obtain ⟨f, _, rfl⟩ := List.mem_map.mp h
  exact List.mem_map_of_mem hr
theorem own_pairs_snoc (rows : List Row) (r : Row) : ownPairs (rows ++ [r]) = ownPairs rows ++ r.own.map fun f => (r.name, f.1) := by
  unfold ownPairs
  rw [List.flatMap_append]
  simp
theorem pair_new {all : List Str} {rows : List Row} {r : Row} {i j : Nat} {f : Fld} (ok : RowsOk all rows) (hi : rows[i]? = some r) (hj : r.own[j]? = some f) : (r.name, f.1) ∉ ownPairs (rows.take i) ++ (r.own.take j).map fun f => (r.name, f.1) := by
  intro h
  rcases List.mem_append.mp h with h | h
  · exact (ok i r hi).fresh (own_pairs_mem h)
  · obtain ⟨g, hg, e⟩ := List.mem_map.mp h
    have nd := ok.own_nd (List.mem_of_getElem? hi)
    have e2 : (r.own.map (·.1)).take j ++ (r.own.map (·.1)).drop j = r.own.map (·.1) := List.take_append_drop _ _
    rw [← e2, List.nodup_append] at nd
    have h1 : g.1 ∈ (r.own.map (·.1)).take j := by
      rw [← List.map_take]
      exact List.mem_map_of_mem hg
    have h2 : f.1 ∈ (r.own.map (·.1)).drop j := by
      rw [← List.map_drop]
      refine List.mem_map_of_mem ?_
      have hlt := (List.getElem?_eq_some_iff.mp hj)
      obtain ⟨hl, he⟩ := hlt
      rw [List.drop_eq_getElem_cons hl, he]
      exact List.mem_cons_self
    exact nd.2.2 _ h1 _ h2 (congrArg Prod.snd e)
structure WkPre (ns : List Str) (P : List (Str × Str)) (w : Wk) : Prop where
  gs : (w.gs.map (·.1)).Sublist ns
  g5 : ∀ x, x ∈ w.gs → G5Ok x.2
  out : w.out.Sublist P
  anew : w.anew.Sublist P
  dis : ∀ x, x ∈ w.out → x ∉ w.anew
theorem WkPre.gen {ns : List Str} {P : List (Str × Str)} {w : Wk} {n : Str} (h : WkPre ns P w) : WkPre (ns ++ [n]) P w := ⟨h.gs.trans (List.sublist_append_left _ _), h.g5, h.out, h.anew, h.dis⟩
theorem WkPre.guard {ns : List Str} {P : List (Str × Str)} {w : Wk} {n : Str} {g : G5} (h : WkPre ns P w) (hg : G5Ok g) : WkPre (ns ++ [n]) P { w with gs := w.gs ++ [(n, g)] } := by
  refine ⟨?_, fun x hx => ?_, h.out, h.anew, h.dis⟩
  · simp only [List.map_append, List.map_cons, List.map_nil]
    exact List.Sublist.append h.gs (List.Sublist.refl _)
  · rcases List.mem_append.mp hx with z | z
    · exact h.g5 x z
    · simp only [List.mem_cons, List.not_mem_nil, or_false] at z
      subst z
      exact hg
theorem WkPre.none {ns : List Str} {P : List (Str × Str)} {w : Wk} {x : Str × Str} (h : WkPre ns P w) : WkPre ns (P ++ [x]) w := ⟨h.gs, h.g5, h.out.trans (List.sublist_append_left _ _), h.anew.trans (List.sublist_append_left _ _), h.dis⟩
theorem WkPre.outp {ns : List Str} {P : List (Str × Str)} {w : Wk} {x : Str × Str} (h : WkPre ns P w) (hx : x ∉ P) : WkPre ns (P ++ [x]) { w with out := w.out ++ [x] } := by
  refine ⟨h.gs, h.g5, List.Sublist.append h.out (List.Sublist.refl _), h.anew.trans (List.sublist_append_left _ _), fun y hy hz => ?_⟩
  rcases List.mem_append.mp hy with z | z
  · exact h.dis y z hz
  · simp only [List.mem_cons, List.not_mem_nil, or_false] at z
    subst z
    exact hx (h.anew.subset hz)
theorem WkPre.anewp {ns : List Str} {P : List (Str × Str)} {w : Wk} {x : Str × Str} (h : WkPre ns P w) (hx : x ∉ P) : WkPre ns (P ++ [x]) { w with anew := w.anew ++ [x] } := by
  refine ⟨h.gs, h.g5, h.out.trans (List.sublist_append_left _ _), List.Sublist.append h.anew (List.Sublist.refl _), fun y hy hz => ?_⟩
  rcases List.mem_append.mp hz with z | z
  · exact h.dis y hy z
  · simp only [List.mem_cons, List.not_mem_nil, or_false] at z
    subst z
    exact hx (h.out.subset hy)
abbrev wkv5 (gd ol al : Addr) (lim : V) (fr : Bool) : List (Key × V) := [(.inr "guards", .ref gd), (.inr "out", .ref ol), (.inr "anew", .ref al), (.inr "limit", lim), (.inr "frees", .bl fr)]
theorem filt_under {rows : List Row} (ok : SchOk rows) : (rows.filter fun r => !decide (underF rows r.name = [])) ≠ [] := fun z => by
  obtain ⟨r, hr, ha⟩ := ok.conc
  have h1 := under_self ok.ok hr ha
  have : r ∈ rows.filter fun r => !decide (underF rows r.name = []) := List.mem_filter.mpr ⟨hr, by
    rw [Bool.not_eq_true', decide_eq_false_iff_not]
    intro e
    rw [e] at h1
    cases h1⟩
  rw [z] at this
  cases this
structure Dst (W gd ol al p : Addr) : Prop where
  Wp : W ≠ p
  gp : gd ≠ p
  op : ol ≠ p
  ap : al ≠ p
  Wg : W ≠ gd
  Wo : W ≠ ol
  Wa : W ≠ al
  go : gd ≠ ol
  ga : gd ≠ al
  oa : ol ≠ al
theorem WkIn.same {H H' : Hp} {w : Wk} {W gd ol al : Addr} {gvs : List (Key × V)} {ovs avs : List V} (i : WkIn H w W gd ol al gvs ovs avs) (s : Same H H') : WkIn H' w W gd ol al gvs ovs avs := by
  have t := tx_same s
  exact ⟨s _ _ i.at_, s _ _ i.gat, i.g.mono (fun _ _ z => z.tx t), s _ _ i.oat, all2_pairs i.o t, s _ _ i.aat, all2_pairs i.a t⟩
theorem WkIn.step {H H' : Hp} {w : Wk} {W gd ol al p c : Addr} {gvs : List (Key × V)} {ovs avs : List V} (i : WkIn H w W gd ol al gvs ovs avs) (d : Dst W gd ol al p) (hp : PenAt H p c) (s : PenStep p c H H') : WkIn H' w W gd ol al gvs ovs avs := by
  have t := tx_step hp s
  exact ⟨s.atd i.at_ d.Wp, s.atd i.gat d.gp, i.g.mono (fun _ _ z => z.tx t), s.atd i.oat d.op, all2_pairs i.o t, s.atd i.aat d.ap, all2_pairs i.a t⟩
theorem WkIn.keys {H : Hp} {w : Wk} {W gd ol al : Addr} {gvs : List (Key × V)} {ovs avs : List V} (i : WkIn H w W gd ol al gvs ovs avs) : gvs.map (·.1) = w.gs.map fun x => Sum.inr x.1 := by
  have h := i.g
  generalize w.gs = l at h
  generalize gvs = m at h
  induction h with
  | nil => rfl
  | cons a _ ih =>
    simp only [List.map_cons, ih]
    rw [a.1]
theorem WkIn.new {H : Hp} {w : Wk} {W gd ol al : Addr} {gvs : List (Key × V)} {ovs avs : List V} {n : Str} (i : WkIn H w W gd ol al gvs ovs avs) (h : n ∉ w.gs.map (·.1)) : valV gvs (.inr n) = none := valV_none (by
  rw [i.keys]
  intro z
  obtain ⟨x, hx, e⟩ := List.mem_map.mp z
  exact h (List.mem_map.mpr ⟨x, hx, Sum.inr.inj e⟩))
theorem WkIn.putG {H : Hp} {w : Wk} {W gd ol al p : Addr} {gvs : List (Key × V)} {ovs avs : List V} {n : Str} {g : G5} {v : V} (i : WkIn H w W gd ol al gvs ovs avs) (d : Dst W gd ol al p) (hg : G5At H g v) :
    WkIn (upd H gd (.dK (gvs ++ [(.inr n, v)]))) { w with gs := w.gs ++ [(n, g)] } W gd ol al (gvs ++ [(.inr n, v)]) ovs avs := by
  have t : Tx H (upd H gd (.dK (gvs ++ [(.inr n, v)]))) := tx_dic i.gat
  obtain ⟨q, rfl, e⟩ := hg
  exact ⟨(upd_ne d.Wg).trans i.at_, upd_same, (i.g.mono (fun _ _ z => z.tx t)).snoc ⟨rfl, q, rfl, t _ _ e⟩, (upd_ne (Ne.symm d.go)).trans i.oat, all2_pairs i.o t, (upd_ne (Ne.symm d.ga)).trans i.aat, all2_pairs i.a t⟩
theorem WkIn.putO {H : Hp} {w : Wk} {W gd ol al p : Addr} {gvs : List (Key × V)} {ovs avs : List V} {x : Str × Str} {v : V} (i : WkIn H w W gd ol al gvs ovs avs) (d : Dst W gd ol al p) (hv : PairAt H x v) :
    WkIn (upd H ol (.lst (ovs ++ [v]))) { w with out := w.out ++ [x] } W gd ol al gvs (ovs ++ [v]) avs := by
  have t : Tx H (upd H ol (.lst (ovs ++ [v]))) := tx_lst i.oat
  exact ⟨(upd_ne d.Wo).trans i.at_, (upd_ne d.go).trans i.gat, i.g.mono (fun _ _ z => z.tx t), upd_same, (all2_pairs i.o t).snoc (hv.tx t), (upd_ne (Ne.symm d.oa)).trans i.aat, all2_pairs i.a t⟩
theorem WkIn.putA {H : Hp} {w : Wk} {W gd ol al p : Addr} {gvs : List (Key × V)} {ovs avs : List V} {x : Str × Str} {v : V} (i : WkIn H w W gd ol al gvs ovs avs) (d : Dst W gd ol al p) (hv : PairAt H x v) :
    WkIn (upd H al (.lst (avs ++ [v]))) { w with anew := w.anew ++ [x] } W gd ol al gvs ovs (avs ++ [v]) := by
  have t : Tx H (upd H al (.lst (avs ++ [v]))) := tx_lst i.aat
  exact ⟨(upd_ne d.Wa).trans i.at_, (upd_ne d.ga).trans i.gat, i.g.mono (fun _ _ z => z.tx t), (upd_ne d.oa).trans i.oat, all2_pairs i.o t, upd_same, (all2_pairs i.a t).snoc (hv.tx t)⟩
theorem WkIn.putL {H : Hp} {w : Wk} {W gd ol al p : Addr} {gvs : List (Key × V)} {ovs avs : List V} {n : Nat} (i : WkIn H w W gd ol al gvs ovs avs) (d : Dst W gd ol al p) :
    WkIn (upd H W (.dK (wkvs gd ol al (.int (n : Nat)) w.frees (.str w.start)))) { w with lim := some n } W gd ol al gvs ovs avs := by
  have t : Tx H (upd H W (.dK (wkvs gd ol al (.int (n : Nat)) w.frees (.str w.start)))) := tx_dic i.at_
  exact ⟨upd_same, (upd_ne (Ne.symm d.Wg)).trans i.gat, i.g.mono (fun _ _ z => z.tx t), (upd_ne (Ne.symm d.Wo)).trans i.oat, all2_pairs i.o t, (upd_ne (Ne.symm d.Wa)).trans i.aat, all2_pairs i.a t⟩
theorem own_pairs_len {rows : List Row} {k : Nat} (h : ∀ r, r ∈ rows → r.own.length ≤ k) : (ownPairs rows).length ≤ k * rows.length := by
  unfold ownPairs
  induction rows with
  | nil => simp
  | cons r l ih =>
    have h1 := h r (by simp)
    have h2 := ih fun x hx => h x (by simp [hx])
    simp only [List.flatMap_cons, List.length_append, List.length_map, List.length_cons, Nat.mul_succ]
    omega
theorem WkPre.small {ns : List Str} {P : List (Str × Str)} {w : Wk} (h : WkPre ns P w) (hn : ns.length ≤ 6) (hP : P.length ≤ 100) : w.gs.length ≤ 6 ∧ w.out.length ≤ 100 ∧ w.anew.length ≤ 100 := by
  have h1 := h.gs.length_le
  rw [List.length_map] at h1
  exact ⟨by omega, Nat.le_trans h.out.length_le hP, Nat.le_trans h.anew.length_le hP⟩
section
variable (gd ol al : Addr) (l : V) (f : Bool) (s : V)
theorem wk_get_guards : valV (wkvs gd ol al l f s) (.inr "guards") = some (.ref gd) := rfl
theorem wk_get_out : valV (wkvs gd ol al l f s) (.inr "out") = some (.ref ol) := rfl
theorem wk_get_anew : valV (wkvs gd ol al l f s) (.inr "anew") = some (.ref al) := rfl
theorem wk_get_limit : valV (wkvs gd ol al l f s) (.inr "limit") = some l := rfl
theorem wk_get_frees : valV (wkvs gd ol al l f s) (.inr "frees") = some (.bl f) := rfl
theorem wk_get_start : valV (wkvs gd ol al l f s) (.inr "start") = some s := rfl
theorem wk_put_limit (v : V) : putK (wkvs gd ol al l f s) (.inr "limit") v = wkvs gd ol al v f s := rfl
end
end Wm
namespace Wm
open PySem L2 PySem.Spec PySem.W PySem.SeqAt
open PyProof.Rows hiding St
def Frt (H : Hp) (a : Addr) (xs : List V) : Prop := ∃ o, o.dict = none ∧ H a = some (.frz o (.tup xs))
theorem Frt.rd {H : Hp} {a : Addr} {xs : List V} (h : Frt H a xs) : Rd H a (.tup xs) := by
  obtain ⟨o, _, h⟩ := h
  exact .inr ⟨o, h⟩
theorem Frt.sq {K : PySem.W.Frag} {H : Hp} {a : Addr} {xs : List V} (h : Frt H a xs) : SqT K H a xs := .inl h.rd
theorem Frt.same {H H' : Hp} {a : Addr} {xs : List V} (h : Frt H a xs) (s : Same H H') : Frt H' a xs := by
  obtain ⟨o, h1, h⟩ := h
  exact ⟨o, h1, s _ _ h⟩
theorem Frt.step {H H' : Hp} {a p c : Addr} {xs : List V} (h : Frt H a xs) (hp : PenAt H p c) (s : PenStep p c H H') : Frt H' a xs := by
  obtain ⟨o, h1, h⟩ := h
  exact ⟨o, h1, s.at hp h rfl⟩
theorem Frt.put {H : Hp} {a b C dx : Addr} {fs : List (Str × V)} {xs : List V} {u : HO} (h : Frt H a xs) (e : H b = some (.ins C dx fs)) : Frt (upd H b u) a xs := by
  obtain ⟨o, h1, h⟩ := h
  exact ⟨o, h1, (upd_ne (ne_of h e (by intro z; cases z))).trans h⟩
def rTupF (K : PySem.W.Frag) : List V → Hp → VK → Prop := fun xs H Q => ∃ p ys, xs = [.ref p] ∧ SqL K H p ys ∧ ∀ l H', H l = none → Same H H' → Frt H' l ys → Q (.ref l) H'
section
variable {X : Cx}
theorem c_tupleF : CallR X (.type "tuple") (rTupF X.K) := by
  intro pins s σ H xs us Q I r h
  obtain ⟨p, ys, rfl, hq, q⟩ := h
  obtain ⟨u, rfl, rx⟩ := vals1 r
  cases rx
  obtain ⟨its, r', pl, hz⟩ := I.list hq
  have hlen := r'.length
  refine call_tuple_list pl.isList (fun h' kp => ?_) (by simp only [List.size_toArray] <;> omega)
  have I1 : Inv X pins σ H { s with heap := h' } := I.kept (t' := s.toks) kp
  have I2 : Inv X pins σ (upd H h'.objs.size (.frz { cls := .type "tuple", data := .seq its.toArray } (.tup ys))) { s with heap := h'.push { cls := .type "tuple", data := .seq its.toArray } } :=
    I1.laid (t' := s.toks) (fun b o e => Heap.get?_push_of_some _ e) (Nat.le_refl _) (show ObjOk X.prog X.w _ _ _ (.frz _ (.tup ys)) from ⟨Heap.get?_push_size _ rfl, hz, its, r', IsTup.new _ _⟩)
  have fr := I1.hok.fresh (Nat.le_refl _)
  exact ⟨.ref h'.objs.size, _, I2, rfl, q _ _ fr (same_new fr) ⟨_, rfl, upd_same⟩⟩
end
end Wm
namespace Wm
open PySem L2 PySem.Spec PySem.W PySem.SeqAt
open PyProof.Rows hiding St
def SqB (K : PySem.W.Frag) (H : Hp) (a : Addr) (xs : List V) : Prop := H a = some (.lst xs) ∨ SqT K H a xs
theorem SqB.sqa {K : PySem.W.Frag} {H : Hp} {a : Addr} {xs : List V} (h : SqB K H a xs) : SqA K H a xs := h.imp (fun h => .of h) id
theorem SqB.same {K : PySem.W.Frag} {H H' : Hp} {a : Addr} {xs : List V} (h : SqB K H a xs) (s : Same H H') : SqB K H' a xs := h.imp (fun h => s _ _ h) (fun h => same_seqT s h)
theorem SqB.ty {K : PySem.W.Frag} {H : Hp} {a : Addr} {xs : List V} (h : SqB K H a xs) : ∃ t, TyX K H (.ref a) (.type t) ∧ (t = "list" ∨ t = "tuple") := by
  rcases h with h | (h | ⟨o, h⟩) | ⟨o, its, n, h, c, _⟩
  · exact ⟨_, .base (.lst h), .inl rfl⟩
  · exact ⟨_, .base (.tup h), .inr rfl⟩
  · exact ⟨_, .fTuple h, .inr rfl⟩
  · exact ⟨_, .kTuple h c, .inr rfl⟩
theorem r_isiB {K : PySem.W.Frag} {H : Hp} {Q : VK} {tp q : Addr} {xs : List V} (h : H tp = some (.tup [.ty "list", .ty "tuple"])) (hx : SqB K H q xs) (k : Q (.bl true) H) : rIsiT K [.ref q, .ref tp] H Q := by
  obtain ⟨t, ht, rfl | rfl⟩ := hx.ty
  · exact r_isiT h (.cons (.ty _) (.cons (.ty _) .nil)) ht rfl k
  · exact r_isiT h (.cons (.ty _) (.cons (.ty _) .nil)) ht rfl k
def GRowAt (C : Addr) (H : Hp) (x : Str × G5) (v : V) : Prop := ∃ t gv, v = .ref t ∧ H t = some (.tup [.str x.1, gv]) ∧ GuAt C H x.2 gv
theorem GRowAt.same {C : Addr} {H H' : Hp} {x : Str × G5} {v : V} (h : GRowAt C H x v) (s : Same H H') : GRowAt C H' x v := by
  obtain ⟨t, gv, rfl, e, g⟩ := h
  exact ⟨t, gv, rfl, s _ _ e, g.same s⟩
def wfs (S : Addr) (st : Str) (gt ot nt : Addr) (lim : V) (fr : Bool) : List (Str × V) := [("schema", .ref S), ("start", .str st), ("guards", .ref gt), ("out", .ref ot), ("anew", .ref nt), ("limit", lim), ("frees", .bl fr)]
structure WkrIn (CW CG : Addr) (H : Hp) (S : Addr) (w : Wk) (a dx gt ot nt : Addr) (gvs ovs nvs : List V) : Prop where
  at_ : H a = some (.ins CW dx (wfs S w.start gt ot nt (limV w.lim) w.frees))
  gat : Frt H gt gvs
  g : All2 (GRowAt CG H) w.gs gvs
  oat : H ot = some (.tup ovs)
  o : All2 (PairAt H) w.out ovs
  nat : H nt = some (.tup nvs)
  n : All2 (PairAt H) w.anew nvs
def WkrAt (CW CG : Addr) (H : Hp) (S : Addr) (w : Wk) (a : Addr) : Prop := ∃ dx gt ot nt gvs ovs nvs, WkrIn CW CG H S w a dx gt ot nt gvs ovs nvs
theorem WkrAt.same {CW CG S a : Addr} {H H' : Hp} {w : Wk} (h : WkrAt CW CG H S w a) (s : Same H H') : WkrAt CW CG H' S w a := by
  obtain ⟨dx, gt, ot, nt, gvs, ovs, nvs, i⟩ := h
  have t := tx_same s
  exact ⟨dx, gt, ot, nt, gvs, ovs, nvs, s _ _ i.at_, i.gat.same s, i.g.mono (fun _ _ z => z.same s), s _ _ i.oat, all2_pairs i.o t, s _ _ i.nat, all2_pairs i.n t⟩
theorem GuAt.step {C p c : Addr} {H H' : Hp} {g : G5} {v : V} (h : GuAt C H g v) (hp : PenAt H p c) (s : PenStep p c H H') : GuAt C H' g v := by
  obtain ⟨a, dx, rfl, e⟩ := h
  exact ⟨a, dx, rfl, s.at hp e rfl⟩
theorem WkrAt.step {CW CG S a p c : Addr} {H H' : Hp} {w : Wk} (h : WkrAt CW CG H S w a) (hp : PenAt H p c) (s : PenStep p c H H') : WkrAt CW CG H' S w a := by
  obtain ⟨dx, gt, ot, nt, gvs, ovs, nvs, i⟩ := h
  have t := tx_step hp s
  exact ⟨dx, gt, ot, nt, gvs, ovs, nvs, s.at hp i.at_ rfl, i.gat.step hp s, i.g.mono (fun _ _ ⟨q, gv, e1, e2, e3⟩ => ⟨q, gv, e1, t _ _ e2, e3.step hp s⟩), t _ _ i.oat, all2_pairs i.o t, t _ _ i.nat, all2_pairs i.n t⟩
def spCon (C D : Addr) : Sp := fun vs H Q _ => ∃ (S : Addr) (rows : List Row) (v : V) (b : Bool), vs = [.ref S, v] ∧ SchAt C D H rows S ∧ SchOk rows ∧ KnV H v b ∧ ∀ k H', Same H H' → (k = true ↔ ¬ badK rows v) → Q (.bl k) H'
def spStart (C D : Addr) : Sp := fun vs H Q _ => ∃ (S : Addr) (rows : List Row) (v : V) (b : Bool), vs = [.ref S, v] ∧ SchAt C D H rows S ∧ SchOk rows ∧ KnV H v b ∧ ∀ k H', Same H H' → (k = true ↔ ∃ n, v = .str n ∧ n ∈ names rows ∧ underF rows n ≠ []) → Q (.bl k) H'
def Pair2 (H : Hp) (x : V) : Prop := ∃ t y z, x = .ref t ∧ H t = some (.tup [y, z])
def spPairs (K : PySem.W.Frag) : Sp := fun vs H Q _ => ∃ (a : Addr) (xs : List V), vs = [.ref a] ∧ SqB K H a xs ∧ xs.length ≤ 1000 ∧ (∀ x, x ∈ xs → Pair2 H x) ∧ ∀ H', Same H H' → Q (.bl true) H'
def spGuards (K : PySem.W.Frag) (C D CG : Addr) : Sp := fun vs H Q _ => ∃ (S a : Addr) (rows : List Row) (gs : List (Str × G5)) (xs : List V), vs = [.ref S, .ref a] ∧ SchAt C D H rows S ∧ SchOk rows ∧ SqB K H a xs ∧ All2 (GRowAt CG H) gs xs ∧ (∀ x, x ∈ gs → x.1 ∈ names rows) ∧ (gs.map (·.1)).Nodup ∧ ∀ H', Same H H' → Q (.bl true) H'
def ownsF (rows : List Row) (o f : Str) : Bool := decide (o ∈ names rows) && decide (f ∈ (ownOf rows o).map (·.1))
def spOwned (C D : Addr) : Sp := fun vs H Q _ => ∃ (S : Addr) (rows : List Row) (o f : Str), vs = [.ref S, .str o, .str f] ∧ SchAt C D H rows S ∧ SchOk rows ∧ o.length ≤ sizeLine ∧ f.length ≤ sizeLine ∧ ∀ H', Same H H' → Q (.bl (ownsF rows o f)) H'
def spFieldsP (K : PySem.W.Frag) (C D : Addr) : Sp := fun vs H Q _ => ∃ (S a b : Addr) (rows : List Row) (l m : List (Str × Str)) (xs ys : List V), vs = [.ref S, .ref a, .ref b] ∧ SchAt C D H rows S ∧ SchOk rows ∧ SqB K H a xs ∧ All2 (PairAt H) l xs ∧ SqB K H b ys ∧ All2 (PairAt H) m ys ∧
  (∀ x, x ∈ l → ownsF rows x.1 x.2 = true ∧ x.1.length ≤ sizeLine ∧ x.2.length ≤ sizeLine) ∧ l.Nodup ∧ (∀ x, x ∈ l → x ∉ m) ∧ l.length ≤ 1000 ∧ m.length ≤ 1000 ∧ ∀ H', Same H H' → Q (.bl true) H'
def spLimit : Sp := fun vs H Q _ => ∃ (l : Option Nat), vs = [limV l] ∧ (∀ n, l = some n → n ≤ 20) ∧ Q (.bl true) H
def pkvs (st g o n lim : V) (fr : Bool) : List (Key × V) := [(.inr "start", st), (.inr "guards", g), (.inr "out", o), (.inr "anew", n), (.inr "limit", lim), (.inr "frees", .bl fr)]
section
variable (st g o n l : V) (f : Bool)
theorem pk_get_start : valV (pkvs st g o n l f) (.inr "start") = some st := rfl
theorem pk_get_guards : valV (pkvs st g o n l f) (.inr "guards") = some g := rfl
theorem pk_get_out : valV (pkvs st g o n l f) (.inr "out") = some o := rfl
theorem pk_get_anew : valV (pkvs st g o n l f) (.inr "anew") = some n := rfl
theorem pk_get_limit : valV (pkvs st g o n l f) (.inr "limit") = some l := rfl
theorem pk_get_frees : valV (pkvs st g o n l f) (.inr "frees") = some (.bl f) := rfl
end
structure PartsIn (K : PySem.W.Frag) (CG : Addr) (H : Hp) (rows : List Row) (w : Wk) (ga oa na : Addr) (gxs oxs nxs : List V) : Prop where
  gat : SqB K H ga gxs
  g : All2 (GRowAt CG H) w.gs gxs
  oat : SqB K H oa oxs
  o : All2 (PairAt H) w.out oxs
  nat : SqB K H na nxs
  n : All2 (PairAt H) w.anew nxs
  st : w.start ∈ names rows
  un : underF rows w.start ≠ []
  gn : ∀ x, x ∈ w.gs → x.1 ∈ names rows
  gnd : (w.gs.map (·.1)).Nodup
  on : ∀ x, x ∈ w.out → x ∈ ownPairs rows
  ond : w.out.Nodup
  nn : ∀ x, x ∈ w.anew → x ∈ ownPairs rows
  nnd : w.anew.Nodup
  dis : ∀ x, x ∈ w.anew → x ∉ w.out
  lim : ∀ m, w.lim = some m → m ≤ 20
def spWrong (K : PySem.W.Frag) (C D CG : Addr) : Sp := fun vs H Q _ => ∃ (S d : Addr) (rows : List Row) (w : Wk) (ga oa na : Addr) (gxs oxs nxs : List V), vs = [.ref S, .ref d] ∧ SchAt C D H rows S ∧ SchOk rows ∧ H d = some (.dK (pkvs (.str w.start) (.ref ga) (.ref oa) (.ref na) (limV w.lim) w.frees)) ∧ PartsIn K CG H rows w ga oa na gxs oxs nxs ∧ ∀ H', Same H H' → Q .non H'
def sortG (rows : List Row) (gs : List (Str × G5)) : List (Str × G5) := (names rows).filterMap fun n => gs.find? fun x => x.1 == n
def sortP (rows : List Row) (l : List (Str × Str)) : List (Str × Str) := (ownPairs rows).filter fun x => decide (x ∈ l)
def spGOrder (K : PySem.W.Frag) (C D CG : Addr) : Sp := fun vs H Q _ => ∃ (S a : Addr) (rows : List Row) (gs : List (Str × G5)) (xs : List V), vs = [.ref S, .ref a] ∧ SchAt C D H rows S ∧ SchOk rows ∧ SqB K H a xs ∧ All2 (GRowAt CG H) gs xs ∧ (gs.map (·.1)).Nodup ∧ gs.length ≤ 6 ∧ ∀ q gvs H', Same H H' → H q = none → Frt H' q gvs → All2 (GRowAt CG H') (sortG rows gs) gvs → Q (.ref q) H'
def spPOrder (K : PySem.W.Frag) (C D : Addr) : Sp := fun vs H Q _ => ∃ (S a : Addr) (rows : List Row) (l : List (Str × Str)) (xs : List V), vs = [.ref S, .ref a] ∧ SchAt C D H rows S ∧ SchOk rows ∧ SqB K H a xs ∧ All2 (PairAt H) l xs ∧ ∀ q pvs H', Same H H' → H q = none → H' q = some (.tup pvs) → All2 (PairAt H') (sortP rows l) pvs → Q (.ref q) H'
end Wm
namespace Wm
open PySem L2 PySem.Spec PySem.W PySem.SeqAt
open PyProof.Rows hiding St
theorem r_iA {K : PySem.W.Frag} {p : Addr} {xs : List V} {σ : St} {H : Hp} {sl : Nat} {R : It → Hp → Prop} (hv : σ[sl]? = some (some (.ref p))) (hS : SqA K H p xs)
    (h : ∀ (J : It) (G : Hp → Prop), Walk J xs.length G (YAt xs) → (∀ H', Same H H' → G H') → R J H) : iOr (iList K (tVar sl)) (iTup K (tVar sl)) σ H R := by
  rcases hS with hS | hS
  · exact .inl ⟨_, hv, p, rfl, ⟨xs, hS⟩, h _ _ walk_list fun H' s => s.seq hS⟩
  · exact .inr ⟨_, hv, p, rfl, ⟨xs, hS⟩, h _ _ walk_tup fun H' s => same_seqT s hS⟩
theorem r_iA0 {K : PySem.W.Frag} {p : Addr} {xs : List V} {σ : St} {H H0 : Hp} {sl : Nat} {R : It → Hp → Prop} (hv : σ[sl]? = some (some (.ref p))) (hS : SqA K H0 p xs) (s0 : Same H0 H)
    (h : ∀ (J : It) (G : Hp → Prop), Walk J xs.length G (YAt xs) → (∀ H', Same H0 H' → G H') → R J H) : iOr (iList K (tVar sl)) (iTup K (tVar sl)) σ H R := by
  rcases hS with hS | hS
  · exact .inl ⟨_, hv, p, rfl, ⟨xs, s0.seq hS⟩, h _ _ walk_list fun H' s => s.seq hS⟩
  · exact .inr ⟨_, hv, p, rfl, ⟨xs, same_seqT s0 hS⟩, h _ _ walk_tup fun H' s => same_seqT s hS⟩
theorem dc_walk {J : It} {n : Nat} {G : Hp → Prop} {Y : Nat → Hp → V → Hp → Prop} (w : Walk J n G Y) {g : TG} {tt : TT} {tk tv : TE} {vs : List Nat} {σ : St} {H1 : Hp} {D : Addr} {Qd : Hp → Prop} (Pv : Nat → Hp → Prop) (h0 : Pv 0 (upd H1 D (.dK []))) (hl : ∀ i H, i ≤ n → Pv i H → G H)
    (hs : ∀ i x H H', i < n → Pv i H → Y i H x H' → g x (wipe σ vs) H' fun σ2 H2 => wipe σ2 vs = wipe σ vs ∧ tt σ2 H2 fun b H3 =>
      if b = true then tk σ2 H3 fun y H4 => tv σ2 H4 fun z H5 => ∃ kvs k, y = kV k ∧ H5 D = some (.dK kvs) ∧ kvs.length < sizeLine ∧ Pv (i + 1) (upd H5 D (.dK (putK kvs k z))) else Pv (i + 1) H3) (hd : ∀ H, Pv n H → Qd H) :
    ∃ W : Nat → Nat → Hp → Prop, (∃ m, W 0 m (upd H1 D (.dK []))) ∧ ∀ i m H, W i m H →
      (J.stop i H ∧ Qd H) ∨ (J.go i H ∧ ∃ Nx : Hp → Prop, (∀ H', Nx H' → ∃ m', m' < m ∧ W (i + 1) m' H') ∧ ∀ x H', J.yld i H x H' → g x (wipe σ vs) H' fun σ2 H2 => wipe σ2 vs = wipe σ vs ∧ tt σ2 H2 fun b H3 =>
        if b = true then tk σ2 H3 fun y H4 => tv σ2 H4 fun z H5 => ∃ kvs k, y = kV k ∧ H5 D = some (.dK kvs) ∧ kvs.length < sizeLine ∧ Nx (upd H5 D (.dK (putK kvs k z))) else Nx H3) := by
  refine ⟨fun i m H => m = n - i ∧ i ≤ n ∧ Pv i H, ⟨n, by simp, Nat.zero_le _, h0⟩, ?_⟩
  rintro i m H ⟨rfl, hi, p⟩
  have q := hl i H hi p
  by_cases hlt : i < n
  · exact .inr ⟨w.goes i H hlt q, Pv (i + 1), fun H' p' => ⟨n - (i + 1), by omega, rfl, hlt, p'⟩, fun x H' y => hs i x H H' hlt p (w.yields i H x H' hlt q y)⟩
  · have e : i = n := by omega
    subst e
    exact .inl ⟨w.stops H q, hd H p⟩
def dcEnd (g : TG) (tt : TT) (tk tv : TE) (vs : List Nat) (σ : St) (Q : VK) : It → Hp → Prop := fun J H1 => ∀ D, H1 D = none → ∃ W : Nat → Nat → Hp → Prop, (∃ m, W 0 m (upd H1 D (.dK []))) ∧ ∀ i m H, W i m H →
  (J.stop i H ∧ Q (.ref D) H) ∨ (J.go i H ∧ ∃ Nx : Hp → Prop, (∀ H', Nx H' → ∃ m', m' < m ∧ W (i + 1) m' H') ∧ ∀ x H', J.yld i H x H' → g x (wipe σ vs) H' fun σ2 H2 => wipe σ2 vs = wipe σ vs ∧ tt σ2 H2 fun b H3 =>
    if b = true then tk σ2 H3 fun y H4 => tv σ2 H4 fun z H5 => ∃ kvs k, y = kV k ∧ H5 D = some (.dK kvs) ∧ kvs.length < sizeLine ∧ Nx (upd H5 D (.dK (putK kvs k z))) else Nx H3)
theorem r_dc {wi : TI} {g : TG} {tt : TT} {tk tv : TE} {vs : List Nat} {σ : St} {H : Hp} {Q : VK} (h : wi σ H (dcEnd g tt tk tv vs σ Q)) : tDc wi g tt tk tv vs σ H Q := h
theorem r_dcW {α : Type} {J : It} {n : Nat} {G : Hp → Prop} {Y : Nat → Hp → V → Hp → Prop} {g : TG} {tt : TT} {tk tv : TE} {vs : List Nat} {σ : St} {H : Hp} {Q : VK} (w : Walk J n G Y) (items : List α) (hn : items.length = n) (key : α → Str) (Rl : α → V → Hp → Prop) (nd : (items.map key).Nodup)
    (hst : ∀ a y G G', Rl a y G → (∀ b o, G b = some o → G' b = some o) → Rl a y G') (hG : ∀ H', Same H H' → G H') (hz : n ≤ sizeLine)
    (ht : ∀ (D : Addr) (i : Nat) (a : α) (x : V) (Hi Hj : Hp) (kvs : List (Key × V)) (N : V → V → Hp → Prop) (Kf : Hp → Prop), H D = none → items[i]? = some a → Same H Hi → Hi D = some (.dK kvs) → Y i Hi x Hj → (∀ z H'', Same Hi H'' → Rl a z (hid D H'') → N (.str (key a)) z H'') →
      g x (wipe σ vs) Hj fun σ2 H2 => wipe σ2 vs = wipe σ vs ∧ tt σ2 H2 fun b H3 => if b = true then tk σ2 H3 fun y H4 => tv σ2 H4 fun z H5 => N y z H5 else Kf H3)
    (k : ∀ q kvs H', H q = none → Same H H' → H' q = some (.dK kvs) → All2 (fun a kv => kv.1 = .inr (key a) ∧ Rl a kv.2 H') items kvs → Q (.ref q) H') : dcEnd g tt tk tv vs σ Q J H := by
  subst hn
  intro D hD
  refine dc_walk w (fun j H' => Same H H' ∧ ∃ kvs, H' D = some (.dK kvs) ∧ All2 (fun a kv => kv.1 = Sum.inr (key a) ∧ Rl a kv.2 (hid D H')) (items.take j) kvs) ⟨same_new hD, [], upd_same, .nil⟩ (fun i H' _ z => hG H' z.1) (fun i x Hi Hj hi z y => ?_) (fun H' z => ?_)
  · obtain ⟨s, kvs, e, hr⟩ := z
    have ha : items[i]? = some items[i] := by simp [hi]
    refine ht D i items[i] x Hi Hj kvs (fun y z H5 => ∃ kvs k, y = kV k ∧ H5 D = some (.dK kvs) ∧ kvs.length < sizeLine ∧ (Same H (upd H5 D (.dK (putK kvs k z))) ∧ ∃ kvs', (upd H5 D (.dK (putK kvs k z))) D = some (.dK kvs') ∧ All2 (fun a kv => kv.1 = Sum.inr (key a) ∧ Rl a kv.2 (hid D (upd H5 D (.dK (putK kvs k z))))) (items.take (i + 1)) kvs')) _ hD ha s e y (fun z H'' s2 hz2 => ?_)
    · have e2 := s2 _ _ e
      have hkeys : ∀ {l : List α} {m : List (Key × V)}, All2 (fun a kv => kv.1 = Sum.inr (key a) ∧ Rl a kv.2 (hid D Hi)) l m → m.map (·.1) = l.map fun a => Sum.inr (key a) := by
        intro l m h
        induction h with
        | nil => rfl
        | cons a _ ih =>
          simp only [List.map_cons, ih]
          rw [a.1]
      have hnew : valV kvs (.inr (key items[i])) = none := valV_none (by
        rw [hkeys hr]
        intro q
        obtain ⟨b, hb, eb⟩ := List.mem_map.mp q
        have e3 : (items.map key).take i ++ (items.map key).drop i = items.map key := List.take_append_drop _ _
        rw [← e3, List.nodup_append] at nd
        have h1 : key b ∈ (items.map key).take i := by
          rw [← List.map_take]
          exact List.mem_map_of_mem hb
        have h2 : key items[i] ∈ (items.map key).drop i := by
          rw [← List.map_drop]
          refine List.mem_map_of_mem ?_
          rw [List.drop_eq_getElem_cons hi]
          exact List.mem_cons_self
        exact nd.2.2 _ h1 _ h2 (Sum.inr.inj eb))
      have hl := hr.len
      rw [List.length_take] at hl
      have up : ∀ (o : HO), ∀ b u, hid D H'' b = some u → hid D (upd H'' D o) b = some u := fun o b u q => by
        obtain ⟨n, q⟩ := hid_get q
        exact hid_at n ((upd_ne n).trans q)
      refine ⟨kvs, .inr (key items[i]), rfl, e2, by omega, same_put (s.trans s2) hD, _, upd_same, ?_⟩
      rw [putK_new _ hnew, take_more ha]
      refine All2.snoc (a := items[i]) (b := ((.inr (key items[i]), z) : Key × V)) (R := fun a (kv : Key × V) => kv.1 = Sum.inr (key a) ∧ Rl a kv.2 (hid D (upd H'' D (.dK (kvs ++ [(.inr (key items[i]), z)]))))) ⟨rfl, hst (items[i]) z _ _ hz2 (up _)⟩ (hr.mono fun a b q => ⟨q.1, hst _ _ _ _ q.2 fun b' o q' => up _ b' o (by
        obtain ⟨n, q'⟩ := hid_get q'
        exact hid_at n (s2 _ _ q'))⟩)
  · obtain ⟨s, kvs, e, hr⟩ := z
    rw [List.take_length] at hr
    exact k D kvs H' hD s e (hr.mono fun a b z => ⟨z.1, hst _ _ _ _ z.2 fun b o z => (hid_get z).2⟩)
theorem owns_pair {rows : List Row} {x : Str × Str} (hok : SchOk rows) (h : x ∈ ownPairs rows) : ownsF rows x.1 x.2 = true ∧ x.1.length ≤ sizeLine ∧ x.2.length ≤ sizeLine := by
  unfold ownPairs at h
  obtain ⟨r, hr, h⟩ := List.mem_flatMap.mp h
  obtain ⟨f, hf, rfl⟩ := List.mem_map.mp h
  have hn : r.name ∈ names rows := List.mem_map_of_mem hr
  have l1 := kindName_len (hok.ok.kn hn)
  have l2 := fieldName_len (((hok.sm hr).form.2.2 f hf).1)
  refine ⟨?_, by rw [PySem.sizeLine_eq]; show r.name.length ≤ _; omega, by rw [PySem.sizeLine_eq]; show f.1.length ≤ _; omega⟩
  unfold ownsF
  rw [Bool.and_eq_true, decide_eq_true_eq, decide_eq_true_eq, own_of hok.ok.nd hr]
  exact ⟨hn, List.mem_map_of_mem hf⟩
theorem own_pairs_nd {all : List Str} {rows : List Row} (ok : RowsOk all rows) : (ownPairs rows).Nodup := by
  have key : ∀ m, m ≤ rows.length → (ownPairs (rows.take m)).Nodup := by
    intro m
    induction m with
    | zero => intro _; exact List.Pairwise.nil
    | succ m ih =>
      intro hm
      have hlt : m < rows.length := hm
      have e : rows[m]? = some rows[m] := List.getElem?_eq_getElem hlt
      rw [take_more e, own_pairs_snoc, List.nodup_append]
      refine ⟨ih (by omega), ?_, fun x hx y hy z => ?_⟩
      · have := ok.own_nd (List.mem_of_getElem? e)
        have h2 := nd_map_on (f := fun n : Str => ((rows[m].name, n) : Str × Str)) (fun a b h => (Prod.mk.inj h).2) this
        rwa [List.map_map] at h2
      · subst z
        obtain ⟨f, hf, rfl⟩ := List.mem_map.mp hy
        exact (ok m _ e).fresh (own_pairs_mem hx)
  have := key rows.length (Nat.le_refl _)
  rwa [List.take_length] at this
theorem look_gs {R : Str × G5 → V → Prop} {n : Str} : ∀ {gs : List (Str × G5)} {kvs : List (Key × V)}, All2 (fun x kv => kv.1 = Sum.inr x.1 ∧ R x kv.2) gs kvs →
    (∀ x, gs.find? (fun x => x.1 == n) = some x → ∃ v, valV kvs (.inr n) = some v ∧ R x v) ∧ (gs.find? (fun x => x.1 == n) = none → valV kvs (.inr n) = none)
  | _, _, .nil => ⟨fun x h => by simp at h, fun _ => rfl⟩
  | x :: gs, kv :: kvs, .cons h t => by
    obtain ⟨i1, i2⟩ := look_gs (n := n) t
    obtain ⟨k, v⟩ := kv
    obtain ⟨hk, hr⟩ := h
    have hk' : k = Sum.inr x.1 := hk
    subst hk'
    by_cases e : x.1 = n
    · have e1 : (x :: gs).find? (fun x => x.1 == n) = some x := by rw [List.find?_cons_of_pos (by simpa using e)]
      have e2 : valV ((Sum.inr x.1, v) :: kvs) (.inr n) = some v := by
        unfold valV
        rw [List.find?_cons_of_pos (by simpa using e)]
        rfl
      exact ⟨fun y hy => by
        rw [e1] at hy
        cases hy
        exact ⟨v, e2, hr⟩, fun z => by rw [e1] at z; cases z⟩
    · have e1 : (x :: gs).find? (fun x => x.1 == n) = gs.find? (fun x => x.1 == n) := by rw [List.find?_cons_of_neg (by simpa using e)]
      have e2 : valV ((Sum.inr x.1, v) :: kvs) (.inr n) = valV kvs (.inr n) := by
        unfold valV
        rw [List.find?_cons_of_neg (by simpa using e)]
      rw [e1, e2]
      exact ⟨i1, i2⟩
theorem all2_fm {α β : Type} {f : α → Option β} {R : β → V → Prop} : ∀ {l : List α} {ys : List V}, All2 (fun a y => ∃ x, f a = some x ∧ R x y) (l.filter fun a => (f a).isSome) ys → All2 R (l.filterMap f) ys
  | [], ys, h => by
    cases h
    exact .nil
  | a :: l, ys, h => by
    cases e : f a with
    | none =>
      rw [List.filterMap_cons_none e]
      rw [List.filter_cons_of_neg (by simp [e])] at h
      exact all2_fm h
    | some x =>
      rw [List.filterMap_cons_some e]
      rw [List.filter_cons_of_pos (by simp [e])] at h
      cases h with
      | cons h t =>
        obtain ⟨x', e', r⟩ := h
        rw [e] at e'
        cases e'
        exact .cons r (all2_fm t)
theorem r_dInN {a : Addr} {kvs : List (Key × V)} {x : Str} {H : Hp} {R : Bool → Prop} (h : H a = some (.dK kvs)) (e : valV kvs (.inr x) = none) (q : R false) : ∃ a' o, V.ref a = V.ref a' ∧ DGet H a' (.str x) o ∧ ∃ k, V.bl o.isSome = V.bl k ∧ R k :=
  ⟨a, none, rfl, e ▸ DGet.k (k := Sum.inr x) h, false, rfl, q⟩
theorem r_dInS {a : Addr} {kvs : List (Key × V)} {x : Str} {v : V} {H : Hp} {R : Bool → Prop} (h : H a = some (.dK kvs)) (e : valV kvs (.inr x) = some v) (q : R true) : ∃ a' o, V.ref a = V.ref a' ∧ DGet H a' (.str x) o ∧ ∃ k, V.bl o.isSome = V.bl k ∧ R k :=
  ⟨a, some v, rfl, e ▸ DGet.k (k := Sum.inr x) h, true, rfl, q⟩
end Wm
namespace Wm
open PySem L2 PySem.Spec PySem.W PySem.SeqAt
open PyProof.Rows hiding St
section
variable {H H' : Hp} {a C dx : Addr}
theorem ne_fresh {b : Addr} {o : HO} (e : H a = some (.ins C dx [])) (h : H b = some o) (n : o ≠ .ins C dx []) : b ≠ a := fun z => by
  rw [z, e] at h
  exact n (Option.some.inj h).symm
theorem But.txI (e : H a = some (.ins C dx [])) (s : But a H H') : Tx H H' := fun b xs h => s b _ (ne_fresh e h (by intro z; cases z)) h
theorem SchAt.butI {CK CS S : Addr} {rows : List Row} (h : SchAt CK CS H rows S) (e : H a = some (.ins C dx [])) (s : But a H H') : SchAt CK CS H' rows S := by
  obtain ⟨dx', rv, nv, dv, rvs, kvs, i⟩ := h
  have t := s.txI e
  exact ⟨dx', rv, nv, dv, rvs, kvs, s _ _ (ne_fresh e i.at_ (by intro z; unfold sfs at z; cases z)) i.at_, t _ _ i.rws, all2_rows i.rall t, t _ _ i.nms, i.kn.butI e s⟩
theorem SqB.butI {K : PySem.W.Frag} {b : Addr} {xs : List V} (h : SqB K H b xs) (e : H a = some (.ins C dx [])) (s : But a H H') : SqB K H' b xs := by
  rcases h with h | (h | ⟨o, h⟩) | h
  · exact .inl (s _ _ (ne_fresh e h (by intro z; cases z)) h)
  · exact .inr (.inl (.inl (s _ _ (ne_fresh e h (by intro z; cases z)) h)))
  · exact .inr (.inl (.inr ⟨o, s _ _ (ne_fresh e h (by intro z; cases z)) h⟩))
  · exact .inr (.inr h)
theorem GRowAt.butI {CG : Addr} {x : Str × G5} {v : V} (h : GRowAt CG H x v) (e : H a = some (.ins C dx [])) (s : But a H H') : GRowAt CG H' x v := by
  obtain ⟨t, gv, rfl, e1, ga, gdx, rfl, e2⟩ := h
  exact ⟨t, _, rfl, s.txI e _ _ e1, ga, gdx, rfl, s _ _ (ne_fresh e e2 (by intro z; unfold gfs at z; cases z)) e2⟩
theorem PartsIn.butI {K : PySem.W.Frag} {CG : Addr} {rows : List Row} {w : Wk} {ga oa na : Addr} {gxs oxs nxs : List V} (h : PartsIn K CG H rows w ga oa na gxs oxs nxs) (e : H a = some (.ins C dx [])) (s : But a H H') : PartsIn K CG H' rows w ga oa na gxs oxs nxs := by
  have t := s.txI e
  exact { h with gat := h.gat.butI e s, g := h.g.mono (fun _ _ z => z.butI e s), oat := h.oat.butI e s, o := all2_pairs h.o t, nat := h.nat.butI e s, n := all2_pairs h.n t }
theorem PartsIn.same {K : PySem.W.Frag} {CG : Addr} {rows : List Row} {w : Wk} {ga oa na : Addr} {gxs oxs nxs : List V} (h : PartsIn K CG H rows w ga oa na gxs oxs nxs) (s : Same H H') : PartsIn K CG H' rows w ga oa na gxs oxs nxs := by
  have t := tx_same s
  exact { h with gat := h.gat.same s, g := h.g.mono (fun _ _ z => z.same s), oat := h.oat.same s, o := all2_pairs h.o t, nat := h.nat.same s, n := all2_pairs h.n t }
end
theorem gu_put {CG a C dx : Addr} {H : Hp} {fs gs : List (Str × V)} {x : Str × G5} {v : V} (h : GRowAt CG H x v) (e : H a = some (.ins C dx fs)) (n : ∃ v r, fs = (("schema" : Str), v) :: r) : GRowAt CG (upd H a (.ins C dx gs)) x v := by
  obtain ⟨t, gv, rfl, e1, ga, gdx, rfl, e2⟩ := h
  refine ⟨t, _, rfl, (upd_ne (ne_of e1 e (by intro z; cases z))).trans e1, ga, gdx, rfl, (upd_ne fun z => ?_).trans e2⟩
  rw [z, e] at e2
  have h1 := (HO.ins.inj (Option.some.inj e2)).2.2
  obtain ⟨u, r, e3⟩ := n
  rw [e3] at h1
  have h2 := congrArg Prod.fst (List.cons.inj h1).1
  exact absurd (show (Str.ofString "schema") = Str.ofString "mark" from by first | exact h2 | exact h2.symm) (by decide +kernel)
def ordW (rows : List Row) (w : Wk) : Wk := { w with gs := sortG rows w.gs, out := sortP rows w.out, anew := sortP rows w.anew }
def spWInit (K : PySem.W.Frag) (C D CG CW : Addr) : Sp := fun vs H Q _ => ∃ (a dx S : Addr) (rows : List Row) (w : Wk) (ga oa na : Addr) (gxs oxs nxs : List V), vs = [.ref a, .ref S, .str w.start, .ref ga, .ref oa, .ref na, limV w.lim, .bl w.frees] ∧ H a = some (.ins CW dx []) ∧ SchAt C D H rows S ∧ SchOk rows ∧ PartsIn K CG H rows w ga oa na gxs oxs nxs ∧
  ∀ H', But a H H' → WkrAt CW CG H' S (ordW rows w) a → Q .non H'
end Wm
namespace Wm
open PySem L2 PySem.Spec PySem.W PySem.SeqAt
open PyProof.Rows hiding St
theorem filt_sub {α : Type} [DecidableEq α] {l L : List α} (h : l.Sublist L) (nd : L.Nodup) : L.filter (fun x => decide (x ∈ l)) = l := by
  induction h with
  | slnil => rfl
  | @cons l L a h ih =>
    rw [List.nodup_cons] at nd
    have ha : a ∉ l := fun z => nd.1 (h.subset z)
    rw [List.filter_cons_of_neg (by simpa using ha)]
    exact ih nd.2
  | @cons_cons l L a h ih =>
    rw [List.nodup_cons] at nd
    rw [List.filter_cons_of_pos (by simp)]
    congr 1
    refine Eq.trans (List.filter_congr fun x hx => ?_) (ih nd.2)
    have : x ≠ a := fun z => nd.1 (z ▸ hx)
    simp [this]
theorem sortP_id {all : List Str} {rows : List Row} {l : List (Str × Str)} (ok : RowsOk all rows) (h : l.Sublist (ownPairs rows)) : sortP rows l = l := by
  unfold sortP
  have := filt_sub h (own_pairs_nd ok)
  refine Eq.trans (List.filter_congr fun x _ => ?_) this
  exact decide_eq_decide.mpr Iff.rfl
theorem fm_congr {α β : Type} {f g : α → Option β} : ∀ {l : List α}, (∀ x, x ∈ l → f x = g x) → l.filterMap f = l.filterMap g
  | [], _ => rfl
  | a :: l, h => by
    rw [List.filterMap_cons, List.filterMap_cons, h a (by simp), fm_congr fun x hx => h x (by simp [hx])]
theorem fm_id : ∀ {N : List Str} {gs : List (Str × G5)}, (gs.map (·.1)).Sublist N → N.Nodup → N.filterMap (fun n => gs.find? fun x => x.1 == n) = gs
  | [], gs, h, _ => by
    have := List.sublist_nil.mp h
    cases gs with
    | nil => rfl
    | cons _ _ => cases this
  | n :: N, gs, h, nd => by
    rw [List.nodup_cons] at nd
    rcases List.sublist_cons_iff.mp h with h2 | ⟨r, e, h2⟩
    · have hn : n ∉ gs.map (·.1) := fun z => nd.1 (h2.subset z)
      rw [List.filterMap_cons_none]
      · exact fm_id h2 nd.2
      · rw [List.find?_eq_none]
        intro x hx
        simp only [beq_iff_eq]
        intro z
        exact hn (List.mem_map.mpr ⟨x, hx, z⟩)
    · cases gs with
      | nil => cases e
      | cons x gs =>
        rw [List.map_cons, List.cons.injEq] at e
        obtain ⟨hx, rfl⟩ := e
        rw [List.filterMap_cons_some (b := x) (by rw [List.find?_cons_of_pos (by simpa using hx)])]
        congr 1
        refine Eq.trans (fm_congr fun m hm => ?_) (fm_id h2 nd.2)
        have : x.1 ≠ m := fun z => nd.1 (by rw [← hx, z]; exact hm)
        rw [List.find?_cons_of_neg (by simpa using this)]
theorem ord_id {rows : List Row} {w : Wk} (hok : SchOk rows) (h : WkOk rows w) : ordW rows w = w := by
  unfold ordW
  rw [show sortG rows w.gs = w.gs from fm_id h.gs hok.ok.nd, sortP_id hok.ok h.out, sortP_id hok.ok h.anew]
theorem WkOk.parts {K : PySem.W.Frag} {CG : Addr} {H : Hp} {rows : List Row} {w : Wk} {ga oa na : Addr} {gxs oxs nxs : List V} (hok : SchOk rows) (h : WkOk rows w) (g1 : SqB K H ga gxs) (g2 : All2 (GRowAt CG H) w.gs gxs) (o1 : SqB K H oa oxs) (o2 : All2 (PairAt H) w.out oxs) (n1 : SqB K H na nxs) (n2 : All2 (PairAt H) w.anew nxs) : PartsIn K CG H rows w ga oa na gxs oxs nxs where
  gat := g1
  g := g2
  oat := o1
  o := o2
  nat := n1
  n := n2
  st := h.st
  un := h.un
  gn := fun x hx => h.gs.subset (List.mem_map_of_mem hx)
  gnd := h.gs.nodup hok.ok.nd
  on := fun x hx => h.out.subset hx
  ond := h.out.nodup (own_pairs_nd hok.ok)
  nn := fun x hx => h.anew.subset hx
  nnd := h.anew.nodup (own_pairs_nd hok.ok)
  dis := fun x hx hy => h.dis x hy hx
  lim := h.lim
theorem r_lockS {t : TS} {d : Addr} {kvs : List (Key × V)} {D : Ends} {σ : St} {H : Hp} (h : H d = some (.dK kvs))
    (k : ∀ od, t ⟨fun σ' H' => H' d = some (.frz od (.dK kvs)) ∧ D.nx σ' (upd H' d (.dK kvs)), fun v H' => H' d = some (.frz od (.dK kvs)) ∧ D.rt v (upd H' d (.dK kvs)), fun σ' H' => H' d = some (.frz od (.dK kvs)) ∧ D.bk σ' (upd H' d (.dK kvs)), fun σ' H' => H' d = some (.frz od (.dK kvs)) ∧ D.ct σ' (upd H' d (.dK kvs))⟩ σ (upd H d (.frz od (.dK kvs)))) : tLock t D σ H := ⟨d, .dK kvs, h, trivial, k⟩
theorem r_iItems {td : TE} {σ : St} {H : Hp} {R : It → Hp → Prop} (h : td σ H fun x H1 => ∃ d o kvs, x = .ref d ∧ H1 d = some (.frz o (.dK kvs)) ∧ R (Iti d o kvs) H1) : iItems td σ H R := h
def spWMade (C D CG CW : Addr) : Sp := fun vs H Q _ => ∃ (S W p : Addr) (rows : List Row) (w : Wk), vs = [.ref S, .ref W] ∧ SchAt C D H rows S ∧ SchOk rows ∧ WkAt H w W p ∧ WkOk rows w ∧ ∀ a H', Same H H' → H a = none → WkrAt CW CG H' S w a → Q (.ref a) H'
def guardOf5 (rows : List Row) (w : Wk) (n : Str) : G5 := match (lineF rows n).findSome? fun o => w.gs.find? fun x => x.1 == o with
  | some x => x.2
  | none => noG
end Wm
namespace Wm
open PySem L2 PySem.Spec PySem.W PySem.SeqAt
open PyProof.Rows hiding St
theorem all2_app {α β : Type} {R : α → β → Prop} : ∀ {l l' : List α} {m m' : List β}, All2 R l m → All2 R l' m' → All2 R (l ++ l') (m ++ m')
  | [], _, [], _, _, h => h
  | _ :: _, _, _ :: _, _, .cons h t, h' => .cons h (all2_app t h')
abbrev Stp := Str × Str × Bool × Str
def StpAt (H : Hp) (x : Stp) (v : V) : Prop := ∃ t, v = .ref t ∧ H t = some (.tup [.str x.1, .str x.2.1, .bl x.2.2.1, .str x.2.2.2])
theorem StpAt.tx {H H' : Hp} {x : Stp} {v : V} (h : StpAt H x v) (t : Tx H H') : StpAt H' x v := by
  obtain ⟨a, rfl, e⟩ := h
  exact ⟨a, rfl, t _ _ e⟩
def StpsAt (H : Hp) (q : Addr) (l : List Stp) : Prop := ∃ vs, H q = some (.lst vs) ∧ All2 (StpAt H) l vs
theorem all2_stp {H H' : Hp} {l : List Stp} {vs : List V} (h : All2 (StpAt H) l vs) (t : Tx H H') : All2 (StpAt H') l vs := h.mono fun _ _ z => z.tx t
theorem StpsAt.same {H H' : Hp} {q : Addr} {l : List Stp} (h : StpsAt H q l) (s : Same H H') : StpsAt H' q l := by
  obtain ⟨vs, e, h⟩ := h
  exact ⟨vs, s _ _ e, all2_stp h (tx_same s)⟩
def sh1 (w : Wk) (f : Fld4) : Option Stp := if (f.2.2.2, f.1) ∈ w.out then none else some (f.1, f.2.1, decide ((f.2.2.2, f.1) ∈ w.anew), f.2.2.1)
def shownF (rows : List Row) (w : Wk) (k : Str) : List Stp := (fieldsF rows k).filterMap (sh1 w)
def st1 (rows : List Row) (x : Stp) : List Stp := (underF rows x.2.2.2).map fun g => (x.1, x.2.1, x.2.2.1, g)
def stepsF (rows : List Row) (w : Wk) (k : Str) : List Stp := (shownF rows w k).flatMap (st1 rows)
def goalF (rows : List Row) (w : Wk) (k : Str) : List Str := (stepsF rows w k).map (·.2.2.2)
def newF (f b : List Str) (x : Str) : List Str := if x ∈ f ∨ x ∈ b then b else b ++ [x]
def belowF (rows : List Row) (w : Wk) (f l : List Str) : List Str := (l.flatMap (goalF rows w)).foldl (newF f) []
def reachL (rows : List Row) (w : Wk) : Nat → List Str → List Str → List Str
  | 0, f, _ => f
  | n + 1, f, l => reachL rows w n (f ++ belowF rows w f l) (belowF rows w f l)
def capW (w : Wk) : Nat := match w.lim with
  | none => 7
  | some m => min m 7
theorem under_conc {rows : List Row} {n x : Str} (h : x ∈ underF rows n) : x ∈ concF rows := (List.mem_filter.mp h).1
theorem under_nd {rows : List Row} (nd : (names rows).Nodup) (n : Str) : (underF rows n).Nodup := by
  unfold underF concF
  exact List.filter_sublist.nodup (((List.filter_sublist (l := rows)).map _).nodup nd)
theorem goal_conc {rows : List Row} {w : Wk} {k x : Str} (h : x ∈ goalF rows w k) : x ∈ concF rows := by
  unfold goalF stepsF at h
  rw [List.mem_map] at h
  obtain ⟨s, h, rfl⟩ := h
  rw [List.mem_flatMap] at h
  obtain ⟨y, _, h⟩ := h
  unfold st1 at h
  rw [List.mem_map] at h
  obtain ⟨g, hg, rfl⟩ := h
  exact under_conc hg
structure NwOk (C f b : List Str) : Prop where
  nd : (f ++ b).Nodup
  sub : ∀ x, x ∈ f ++ b → x ∈ C
theorem NwOk.new {C f b : List Str} {x : Str} (h : NwOk C f b) (hx : x ∈ C) : NwOk C f (newF f b x) := by
  unfold newF
  split
  · exact h
  · rename_i n
    refine ⟨?_, fun y hy => ?_⟩
    · rw [← List.append_assoc, List.nodup_append]
      refine ⟨h.nd, by simp, fun a ha c hc z => ?_⟩
      rw [List.mem_singleton] at hc
      subst hc
      subst z
      exact n (List.mem_append.mp ha)
    · rw [← List.append_assoc, List.mem_append] at hy
      rcases hy with hy | hy
      · exact h.sub y hy
      · rw [List.mem_singleton] at hy
        rw [hy]
        exact hx
theorem NwOk.fold {C f : List Str} : ∀ {gs b : List Str}, NwOk C f b → (∀ x, x ∈ gs → x ∈ C) → NwOk C f (gs.foldl (newF f) b)
  | [], _, h, _ => h
  | g :: gs, b, h, hg => (h.new (hg g (by simp))).fold fun x hx => hg x (by simp [hx])
theorem below_ok {rows : List Row} {w : Wk} {f l : List Str} (h : f.Nodup) (hf : ∀ x, x ∈ f → x ∈ concF rows) : NwOk (concF rows) f (belowF rows w f l) :=
  NwOk.fold ⟨by simpa using h, by simpa using hf⟩ fun x hx => by
    obtain ⟨k, _, h⟩ := List.mem_flatMap.mp hx
    exact goal_conc h
theorem reach_nil {rows : List Row} {w : Wk} : ∀ (n : Nat) (f : List Str), reachL rows w n f [] = f
  | 0, _ => rfl
  | n + 1, f => by
    show reachL rows w n (f ++ []) [] = f
    rw [List.append_nil, reach_nil n f]
theorem conc_len {rows : List Row} (ok : SchOk rows) {f : List Str} (nd : f.Nodup) (h : ∀ x, x ∈ f → x ∈ concF rows) : f.length ≤ 6 := by
  have h1 := nd_len nd h
  have h2 : (concF rows).length ≤ rows.length := by
    unfold concF
    rw [List.length_map]
    exact List.length_filter_le _ _
  have h3 := ok.few
  omega
structure LvOk (rows : List Row) (w : Wk) (n : Nat) (f l : List Str) : Prop where
  nd : f.Nodup
  sub : ∀ x, x ∈ f → x ∈ concF rows
  lsub : ∀ x, x ∈ l → x ∈ concF rows
  lv : l ≠ [] → n + 1 ≤ f.length
  res : reachL rows w (capW w - n) f l = reachL rows w (capW w) (underF rows w.start) (underF rows w.start)
theorem LvOk.init {rows : List Row} (ok : SchOk rows) (w : Wk) : LvOk rows w 0 (underF rows w.start) (underF rows w.start) where
  nd := under_nd ok.ok.nd _
  sub := fun x h => under_conc h
  lsub := fun x h => under_conc h
  lv := fun h => by
    cases e : underF rows w.start with
    | nil => exact absurd e h
    | cons a l => simp
  res := rfl
theorem LvOk.next {rows : List Row} (ok : SchOk rows) {w : Wk} {n : Nat} {f l : List Str} (h : LvOk rows w n f l) (hl : l ≠ []) (hc : ∀ m, w.lim = some m → n < m) : LvOk rows w (n + 1) (f ++ belowF rows w f l) (belowF rows w f l) where
  nd := (below_ok h.nd h.sub).nd
  sub := (below_ok h.nd h.sub).sub
  lsub := fun x hx => (below_ok (w := w) (l := l) h.nd h.sub).sub x (by simp [hx])
  lv := fun hb => by
    have := h.lv hl
    rw [List.length_append]
    have := List.length_pos_iff.mpr hb
    omega
  res := by
    have h1 := h.lv hl
    have h2 := conc_len ok h.nd h.sub
    have h3 : capW w - n = (capW w - (n + 1)) + 1 := by
      unfold capW
      cases e : w.lim with
      | none => simp only; omega
      | some m =>
        have := hc m e
        simp only
        omega
    rw [← h.res, h3]
    rfl
theorem LvOk.done {rows : List Row} {w : Wk} {n : Nat} {f l : List Str} (h : LvOk rows w n f l) (e : l = [] ∨ ∃ m, w.lim = some m ∧ m ≤ n) : f = reachL rows w (capW w) (underF rows w.start) (underF rows w.start) := by
  rcases e with rfl | ⟨m, e, hm⟩
  · rw [← h.res, reach_nil]
  · have h3 : capW w - n = 0 := by
      unfold capW
      rw [e]
      simp only
      omega
    rw [← h.res, h3]
    rfl
end Wm
namespace Wm
open PySem L2 PySem.Spec PySem.W PySem.SeqAt
open PyProof.Rows hiding St
end Wm
namespace Wm
open PySem L2 PySem.Spec PySem.W PySem.SeqAt
open PyProof.Rows hiding St
end Wm
namespace Wm
open PySem L2 PySem.Spec PySem.W PySem.SeqAt
open PyProof.Rows hiding St
end Wm
namespace Wm
open PySem L2 PySem.Spec PySem.W PySem.SeqAt
open PyProof.Rows hiding St
theorem WkrAt.butL {CW CG S a D : Addr} {H H' : Hp} {w : Wk} {xs : List V} (h : WkrAt CW CG H S w a) (e : H D = some (.lst xs)) (s : But D H H') : WkrAt CW CG H' S w a := by
  obtain ⟨dx, gt, ot, nt, gvs, ovs, nvs, i⟩ := h
  have k : ∀ {b : Addr} {o : HO}, H b = some o → (∀ ys, o ≠ .lst ys) → H' b = some o := fun hb n => s _ _ (fun z => by
    rw [z, e] at hb
    cases hb
    exact n _ rfl) hb
  have t : Tx H H' := fun b ys hb => k hb (fun _ z => by cases z)
  obtain ⟨og, h1, h2⟩ := i.gat
  refine ⟨dx, gt, ot, nt, gvs, ovs, nvs, k i.at_ (fun _ z => by cases z), ⟨og, h1, k h2 (fun _ z => by cases z)⟩, i.g.mono (fun _ _ z => ?_), t _ _ i.oat, all2_pairs i.o t, t _ _ i.nat, all2_pairs i.n t⟩
  obtain ⟨q, gv, e1, e2, ga, gdx, e3, e4⟩ := z
  exact ⟨q, gv, e1, t _ _ e2, ga, gdx, e3, k e4 (fun _ z => by cases z)⟩
theorem WkrAt.hid {CW CG S a D : Addr} {H : Hp} {w : Wk} {xs : List V} (h : WkrAt CW CG H S w a) (e : H D = some (.lst xs)) : WkrAt CW CG (hid D H) S w a :=
  h.butL e fun _ _ n hb => hid_at n hb
end Wm
namespace Wm
open PySem L2 PySem.Spec PySem.W PySem.SeqAt
open PyProof.Rows hiding St
def OddK (rows : List Row) (H : Hp) (v : V) : Prop := (∃ x, v = .str x ∧ x.length ≤ 100 ∧ x ∉ names rows) ∨ v = .non ∨ (∃ b, v = .bl b) ∨ (∃ i, v = .int i) ∨ ∃ q n, v = .ref q ∧ H q = some (.lst [.str n])
theorem OddK.same {rows : List Row} {H H' : Hp} {v : V} (h : OddK rows H v) (s : Same H H') : OddK rows H' v := by
  rcases h with h | h | h | h | ⟨q, n, rfl, e⟩
  · exact .inl h
  · exact .inr (.inl h)
  · exact .inr (.inr (.inl h))
  · exact .inr (.inr (.inr (.inl h)))
  · exact .inr (.inr (.inr (.inr ⟨q, n, rfl, s _ _ e⟩)))
theorem OddK.kn {rows : List Row} {H : Hp} {v : V} (h : OddK rows H v) : ∃ b, KnV H v b := by
  rcases h with ⟨x, rfl, hl, _⟩ | rfl | ⟨b, rfl⟩ | ⟨i, rfl⟩ | ⟨q, n, rfl, e⟩
  · exact ⟨_, .inl ⟨x, rfl, by rw [PySem.sizeLine_eq]; omega, rfl⟩⟩
  · exact ⟨_, .inr ⟨trivial, fun _ z => (by cases z), rfl⟩⟩
  · exact ⟨_, .inr ⟨trivial, fun _ z => (by cases z), rfl⟩⟩
  · exact ⟨_, .inr ⟨trivial, fun _ z => (by cases z), rfl⟩⟩
  · exact ⟨_, .inr ⟨.inl ⟨_, e⟩, fun _ z => (by cases z), rfl⟩⟩
theorem OddK.bad {rows : List Row} {H : Hp} {v : V} (h : OddK rows H v) : badK rows v := fun m e hm => by
  rcases h with ⟨x, rfl, _, hn⟩ | rfl | ⟨b, rfl⟩ | ⟨i, rfl⟩ | ⟨q, n, rfl, _⟩ <;> cases e
  exact hn hm
theorem OddK.dp {K : PySem.W.Frag} {rows : List Row} {H : Hp} {v : V} (h : OddK rows H v) : ∃ d, Dp K H v d ∧ d.plain = true ∧ d.depth ≤ 60 := by
  rcases h with ⟨x, rfl, _, _⟩ | rfl | ⟨b, rfl⟩ | ⟨i, rfl⟩ | ⟨q, n, rfl, e⟩
  · exact ⟨_, .str x, rfl, by simp [PyData.depth]⟩
  · exact ⟨_, .non, rfl, by simp [PyData.depth]⟩
  · exact ⟨_, .bl b, rfl, by simp [PyData.depth]⟩
  · exact ⟨_, .int i, rfl, by simp [PyData.depth]⟩
  · exact ⟨_, .lst (.of e) (.cons (.str n) .nil), rfl, by simp [PyData.depth, PyData.depthAll]⟩
theorem OddK.empty {rows : List Row} {H : Hp} (ok : RowsOk (names rows) rows) : OddK rows H (.str (Str.ofString "")) := by
  refine .inl ⟨_, rfl, by decide, fun hn => ?_⟩
  have := ok.kn hn
  revert this
  decide
end Wm
namespace Wm
open PySem L2 PySem.Spec PySem.W PySem.SeqAt
open PyProof.Rows hiding St
section
variable {M : Model} {prog : Program} {w : World} {A : Around} {E : Value → Shared → Prop} {s : Shared} {K : PySem.W.Frag} {x C f : Addr} {ox : Obj} {od : Option Obj}
theorem ifBound_objNe {args : List Value} {Q : Option Value → Shared → Prop} (X : K.In s.heap) (I : PySem.W.InstAt s.heap x ox C od) (hs : PySem.W.findIn K (.ref C) "__ne__" = some (some (.builtin "object.__ne__")))
    (h : wpAny M A (call (.builtin "object.__ne__") (.ref x :: args)) (fun v => Q (some v)) E s) : wpAny M A (callSpecialIfBound? (.ref x) "__ne__" args) Q E s := by
  simp only [callSpecialIfBound?, bindSpecialIfBound?]
  refine wpAny_holding (wpAny_bind (wpAny_bind (wpAny_bind (I.type.here ((PySem.W.looks_findIn X hs).here ?_)))))
  refine wpAny_bind (wpAny_askSetting (wpAny_ite ?_))
  have fin : wpAny M A (call (.builtin "object.__ne__") ([.ref x] ++ args) >>= fun v => pure (some v)) Q E s := wpAny_bind (wpAny_mono h (fun v s' h' => wpAny_pure h') fun _ _ h' => h')
  split
  · exact wpAny_bind (wpAny_of_eq (PySem.F.cmp_object.ne.bind _) (wpAny_pure (by exact fin)))
  · exact wpAny_tryCatch (wpAny_bind (wpAny_of_eq (PySem.F.cmp_object.ne.bind _) (wpAny_pure (by exact fin))))
def NeBack (Q : Value → Shared → Prop) (v : Value) (s' : Shared) : Prop := ∃ b, v = .bool b ∧ Q (.bool (!b)) s'
theorem call_objNe {b : Value} {Q : Value → Shared → Prop} (hu : A.in1.units < cLine) (X : K.In s.heap) (I : PySem.W.InstAt s.heap x ox C od) (hm : PySem.W.mroIn K C (.type "object") = some true)
    (hs : PySem.W.findIn K (.ref C) "__eq__" = some (some (.ref f))) (hf : PySem.W.isFn K (.ref f) = true) (h : wpAny (model prog w) A.in1 (call (.ref f) [.ref x, b]) (NeBack Q) E s) :
    wpAny (model prog w) A (call (.builtin "object.__ne__") [.ref x, b]) Q E s := by
  refine wpAny_call (codeAny_call_builtin PySem.F.cmp_object.ne.plain PySem.F.cmpEntry_ne (PySem.W.check_slot PySem.F.cmpKind_ne PySem.F.cmpSplit_ne (I.type.andThen (PySem.W.looks_mroIn X hm)) (PySem.F.cmpArgs_ne _ _) ?_))
  unfold Builtin.«object.__ne__»
  refine wpAny_bind (m := slotArgs "__ne__" 1 _) (wpAny_pure ?_)
  refine wpAny_bind (m := cRoomFor _ _) (wpAny_cRoomFor hu ?_)
  refine wpAny_bind (m := callSpecialIfBound? (.ref x) (Str.ofString "__eq__") _) (PySem.W.ifBound_K X I hs hf (wpAny_mono h (fun r s' hq => ?_) fun _ _ y => y))
  obtain ⟨c, rfl, q⟩ := hq
  exact wpAny_bind (wpAny_truthy_bool (wpAny_pure (by exact q)))
theorem ne_K {L : Addr} {h₀ : Heap} {m : Str → Option Value} {b tb : Value} {Q : Value → Shared → Prop} (hu : A.units < cLine) (hu1 : A.in1.units < cLine) (F : Fr h₀ L s.heap m) (X₀ : K.In h₀) (I : InstAt s.heap x ox C od) (hb : Looks (model prog w) s.heap (typeOf b) tb) (hn : notFirst K C tb = true)
    (hm : PySem.W.mroIn K C (.type "object") = some true) (hz : findIn K (.ref C) "__ne__" = some (some (.builtin "object.__ne__"))) (hs : findIn K (.ref C) "__eq__" = some (some (.ref f))) (hf : isFn K (.ref f) = true)
    (h : wpAny (model prog w) A.in1 (call (.ref f) [.ref x, b]) (NeBack Q) E s) : wpAny (model prog w) A (richCompare .NotEq (.ref x) b) Q E s := by
  have X := X₀.keeps F.keep
  have one : wpAny (model prog w) A (tryCompare (.ref x) (cmpInfo .NotEq).2.1 b) (fun r s' => ∃ v, r = some v ∧ Q v s') E s := by
    unfold tryCompare
    refine wpAny_bind (ifBound_objNe X I hz (call_objNe hu1 X I hm hs hf (wpAny_mono h (fun v s' hv => ?_) fun _ _ e => e)))
    obtain ⟨c, rfl, q⟩ := hv
    exact ⟨c, rfl, wpAny_pure ⟨_, rfl, q⟩⟩
  unfold richCompare
  simp only [oneThing_ref]
  refine wpAny_holding (wpAny_bind (wpAny_cRoomFor hu ?_))
  refine wpAny_bind (I.type.here (wpAny_bind (hb.here ?_)))
  split
  · rename_i q
    have e : subIn K tb (.ref C) = some false := by
      rcases Bool.or_eq_true_iff.mp hn with e | e
      · rw [beq_iff_eq.mp e] at q; simp at q
      · exact beq_iff_eq.mp e
    refine wpAny_bind ((looks_subIn X e).here ?_)
    simp only [Bool.false_eq_true, if_false]
    refine wpAny_bind (wpAny_mono one (fun r s' z => ?_) fun _ _ e => e)
    obtain ⟨v, rfl, hq⟩ := z
    exact wpAny_pure hq
  · refine wpAny_bind (wpAny_pure ?_)
    simp only [Bool.false_eq_true, if_false]
    refine wpAny_bind (wpAny_mono one (fun r s' z => ?_) fun _ _ e => e)
    obtain ⟨v, rfl, hq⟩ := z
    exact wpAny_pure hq
end
structure NeC (K : PySem.W.Frag) (C : Addr) : Prop where
  ne : findIn K (.ref C) "__ne__" = some (some (.builtin "object.__ne__"))
  mro : PySem.W.mroIn K C (.type "object") = some true
section
variable {X : Cx} {CX : CXT} {C f : Addr} {fd : FuncData} {ps : List Str} {k : Nat} {sp : Sp} {E : XK}
def rNeOwn (K : PySem.W.Frag) (C : Addr) (sp : Sp) (E : XK) : R2 := fun x y H Q => ∃ a dx fs tb, x = .ref a ∧ H a = some (.ins C dx fs) ∧ TyX K H y tb ∧ PySem.W.notFirst K C tb = true ∧ sp [x, y] H (nbBk Q) E
theorem op_neOwn (F : FnOk X.prog X.w X.K X.mg X.base CX k f fd ps sp) (hr : Room (k + 1) X.A) (hm : Meth X.K C "__eq__" f) (hc : NeC X.K C) (hb : Binds X.K fd ps []) (hx : Passes CX X E) : OpR X (compareOp .NotEq) (rNeOwn X.K C sp E) := by
  intro pins s σ H x y v u Q I rx ry hq
  obtain ⟨a, dx, fs, tb, rfl, ha, ty, hn, hsp⟩ := hq
  cases rx
  obtain ⟨mA, J, _⟩ := ins_get I.hok ha
  obtain ⟨od, J, _⟩ := J.look
  obtain ⟨m, hF⟩ := I.fr
  obtain ⟨PP, Z, hp, _⟩ := kit_of I ry ty
  have hr2 : Room k X.A.in1 := hr.in1
  show wpAny (model X.prog X.w) X.A (richCompare .NotEq (.ref a) u) (EP X pins σ Q) X.xe s
  refine ne_K (tb := tb) hr.units0 hr2.units0 hF I.ok.mod.kin J (Z.ty _ _ I.kIn hp) hn hc.mro hc.ne hm.at_ hm.fn ?_
  have hl : [Value.ref a, u].length = ps.length := F.len _ _ _ _ hsp
  refine wpAny_call (codeAny_mono (F.run X.A.in1 X.stack s H ⟨[.ref a, u], []⟩ [.ref a, u] [.ref a, y] (nbBk Q) E hr2 I.env0.in1 (by have := hb s [.ref a, u] I.kIn (by rw [List.append_nil]; exact hl); rwa [List.append_nil] at this) (.cons rfl (.cons ry .nil)) hsp) fun r s' hq => ?_)
  cases r with
  | error e => exact hx pins σ H s e s' I hq
  | ok fl =>
    cases fl with
    | ret u =>
      obtain ⟨v, H', I', rv, b, rfl, q'⟩ := I.after hq
      cases rv
      exact ⟨b, rfl, V.bl (!b), H', I', rfl, q'⟩
    | next => exact False.elim hq
    | brk => exact False.elim hq
    | cont => exact False.elim hq
end
theorem r_neOwn {K : PySem.W.Frag} {C o dx : Addr} {fs : List (Str × V)} {tb : Value} {sp : Sp} {E : XK} {y : V} {H : Hp} {Q : VK} (h : H o = some (.ins C dx fs)) (t : TyX K H y tb) (n : PySem.W.notFirst K C tb = true) (q : sp [.ref o, y] H (nbBk Q) E) : rNeOwn K C sp E (.ref o) y H Q := ⟨o, dx, fs, tb, rfl, h, t, n, q⟩
end Wm
namespace Wm
open PySem L2 PySem.Spec PySem.W PySem.SeqAt
open PyProof.Rows hiding St
structure FnC (P : Program) (w : World) (K : PySem.W.Frag) (mg : Str → Option Value) (base : Heap) (CX : CXT) (k : Nat) (f : Addr) (fd : FuncData) (ps : List Str) (sp : Sp) : Prop where
  len : ∀ vs H Q E, sp vs H Q E → vs.length = ps.length
  go : ∀ (A : Around), A.guards = some [] → ∀ (ou : List Env) (s : Shared) (H : Hp) (as : Args) (us : List Value) (vs : List V) (Q : VK) (E : XK), Room k A → Env0 P w K mg base A ou s H → BindsTo s fd as (ps.zip us) → Vals vs us → sp vs H Q E →
    codeAny (model P w) A (.call (.ref f) as) (CR CX ou P w H s Q E) s
section
variable {P : Program} {w : World} {K : PySem.W.Frag} {mg : Str → Option Value} {base : Heap} {CX : CXT}
theorem fnC_of {k : Nat} {f : Addr} {nm qn : Str} {pa : Arguments} {bd : List Stmt} {sc : Scope} {dV kV dc pm cdv ct oc : Value} {an od : Option Addr} {osl : Array (Option Value)} {N ps : List Str} {sp : Sp}
    (lk : K.lookup f = some ⟨oc, od, .func (PySem.W.fnOf nm qn pa bd sc dV kV dc pm an cdv ct), osl⟩) (hcd : PySem.W.codeIn K cdv qn = true) (S : FnScope N ps sc) (len : ∀ vs H Q E, sp vs H Q E → vs.length = ps.length)
    (body : ∀ (A : Around) (ou : List Env) (s : Shared) (H : Hp) (vs : List V) (Q : VK) (E : XK), A.guards = some [] → Room k (A.deeper (envOfC qn sc s.heap.objs.size f cdv)) → sp vs H Q E →
      ∃ t, PSs (cxOf CX P w K mg base N qn sc f cdv A ou s H E) bd t ∧ t { nx := fun _ H' => Q .non H', rt := Q } (start N vs) H) :
    FnC P w K mg base CX (k + 1) f (PySem.W.fnOf nm qn pa bd sc dV kV dc pm an cdv ct) ps sp := by
  refine ⟨len, fun A hg ou s H as us vs Q E room e0 hbd rv hsp => ?_⟩
  have lenV := len _ _ _ _ hsp
  have kin : K.In s.heap := e0.mod.kin.keeps fun b o e => (e0.bs b o e).1
  have noLim : s.heap.NoLimit := e0.mod.nolimit.keeps fun b o e => (e0.bs b o e).1
  have kinds : ∀ z ∈ ps.zip us, sc.names.lookup z.1 = some .local ∨ (sc.names.lookup z.1 = some .cell ∧ ((cellsFrom (s.heap.objs.size + 1) sc.names []).lookup z.1).isSome = true) := by
    rintro ⟨n, v⟩ hz
    exact (S.par n (List.of_mem_zip hz).1).imp id fun q => ⟨q, PySem.W.cellsFrom_some _ _ _ (.inl q)⟩
  refine codeAny_call_function room.depth (kin _ _ lk) rfl S.co S.gen rfl (PySem.W.codeRec_of kin hcd) (hbd _ _ _ _ (wpAny_newFunctionEnv_cells S.kind kinds fun env he s1 x => ?_))
  subst he
  obtain ⟨t, ht, hq⟩ := body A ou s H vs Q E hg (room.deeper _) hsp
  refine ⟨noLim.keeps x.toInCall.keep, codeAny_func ?_⟩
  refine wpAny_mono (ht.run [] s1 (start N vs) H _ (inv_start S room.hd e0 lenV rv x) hq) (fun fl s' hs => ?_) fun _ _ z => z
  have done : ∀ {σ' : St} {H' : Hp} {v : V} {u : Value}, Inv (cxOf CX P w K mg base N qn sc f cdv A ou s H E) [] σ' H' s' → RelV v u → Q v H' → CE ou P w H s Q u s' := fun {_ H' v _} J r q => ⟨v, H', J.os, J.bare, J.base, J.hok, r, q⟩
  match fl, hs with
  | .ret _, ⟨_, _, _, J, r, q⟩ => exact done J r q
  | .next, ⟨_, _, J, q⟩ => exact done (v := V.non) (u := Value.none) J rfl q
  | .brk, ⟨_, _, _, q⟩ => exact q.elim
  | .cont, ⟨_, _, _, q⟩ => exact q.elim
end
theorem okC {P : Program} {w : World} {K : PySem.W.Frag} {mg : Str → Option Value} {base : Heap} {x qn : Str} {st : Stmt} {f : Addr} {fd : FuncData} {N ps : List Str} {k : Nat} {sp : Sp} (F : Fun K x qn st f fd) (S : FnScope N ps (defScope st)) (len : ∀ vs H Q E, sp vs H Q E → vs.length = ps.length)
    (body : ∀ (cdv : Value) (A : Around) (outer : List Env) (s : Shared) (H : Hp) (vs : List V) (Q : VK) (E : XK), A.guards = some [] → Room k (A.deeper (envOfC qn (defScope st) s.heap.objs.size f cdv)) → sp vs H Q E →
      ∃ t, PSs (cxOf (L2.CX P w) P w K mg base N qn (defScope st) f cdv A outer s H E) (defBody st) t ∧ t { nx := fun _ H' => Q .non H', rt := Q } (start N vs) H) : FnC P w K mg base (L2.CX P w) (k + 1) f fd ps sp := by
  obtain ⟨_, _, _, _, _, _, cdv, _, _, rfl, lk, hcd⟩ := F.ex
  exact fnC_of lk hcd S len fun A outer s H vs Q E hg hr hsp => body cdv A outer s H vs Q E hg hr hsp
theorem FnC.imp {P : Program} {w : World} {K : PySem.W.Frag} {mg : Str → Option Value} {base : Heap} {CX : CXT} {k : Nat} {f : Addr} {fd : FuncData} {ps : List Str} {sp sp' : Sp} (F : FnC P w K mg base CX k f fd ps sp) (h : ∀ vs H Q E, sp' vs H Q E → sp vs H Q E) : FnC P w K mg base CX k f fd ps sp' :=
  ⟨fun _ _ _ _ q => F.len _ _ _ _ (h _ _ _ _ q), fun A g ou s H as us vs Q E r e b v z => F.go A g ou s H as us vs Q E r e b v (h _ _ _ _ z)⟩
section
variable {X : Cx} {CX : CXT} {k : Nat} {f : Addr} {fd : FuncData} {ps : List Str} {sp : Sp} {E : XK} {x : Str} {p pos : Pos} {e : Expr} {es : List Expr} {t : TA} {ds : List Value} {dvs : List V}
theorem run_fnC {pins : List (Addr × Obj)} {σ : St} {H : Hp} {s : Shared} {Q : VK} {us : List Value} {vs : List V} (F : FnC X.prog X.w X.K X.mg X.base CX k f fd ps sp) (gd : X.A.guards = some []) (room : Room k X.A) (hb : Binds X.K fd ps []) (hx : Passes CX X E)
    (I : Inv X pins σ H s) (r : Vals vs us) (h : sp vs H Q E) : wpAny (model X.prog X.w) X.A (call (.ref f) us) (EP X pins σ Q) X.xe s := by
  have ln : us.length = ps.length := by rw [← r.length]; exact F.len _ _ _ _ h
  have bd := hb s us I.kIn (by rw [List.append_nil]; exact ln)
  rw [List.append_nil] at bd
  refine wpAny_call (codeAny_mono (F.go X.A gd X.stack s H ⟨us, []⟩ us vs Q E room I.env0 bd r h) fun res s' hq => ?_)
  match res, hq with
  | .error e, hq => exact hx pins σ H s e s' I hq
  | .ok (.ret u), hq => exact I.after hq
  | .ok .next, hq => exact hq.elim
  | .ok .brk, hq => exact hq.elim
  | .ok .cont, hq => exact hq.elim
theorem pe_callC (F : FnC X.prog X.w X.K X.mg X.base CX k f fd ps sp) (gd : X.A.guards = some []) (room : Room k X.A) (hg : Gl X x) (hm : X.mg x = some (.ref f)) (hk : PySem.W.keepIn X.K (.ref f) = true) (hb : Binds X.K fd ps []) (hx : Passes CX X E)
    (ha : PA X (e :: es) t) (hdb : (x == ("__debug__" : Str)) = false := by decide) (hst : starEach (e :: es) X.env = (false, eval e X.env) :: starEach es X.env := by rfl) (hpl : (backTo pos (starEach es X.env)).any (·.1) = false := by rfl) :
    PE X (.Call (.Name x p) (e :: es) [] pos) (tCall sp [] E t) :=
  ⟨fun pins s σ H _ I h => wpAny_Call_Name_kw (ld_glob I hg hm (PySem.W.callWith_K (h₀ := X.base) I.ok.mod.kin hk (thn (ha.run pos pins s σ H _ I h) fun us s1 ⟨vs, H1, I1, r, q⟩ => ⟨I1.kIn, run_fnC F gd room hb hx I1 r (by have z : sp (vs ++ []) H1 _ E := q; rwa [List.append_nil] at z)⟩) hst hpl) hdb)⟩
def rReprD (K : PySem.W.Frag) : List V → Hp → VK → Prop := fun xs H Q => ∃ (a : Addr) (d : PyData), xs = [.ref a] ∧ Dp K H (.ref a) d ∧ d.showable = true ∧ d.hasDict = false ∧ d.depth ≤ 60 ∧ d.shown.length ≤ sizeLine ∧ Q (.str d.shown) H
theorem call_reprD (gd : X.A.guards = some []) (hu : X.A.units + 64 < cLine) : CallR X (.builtin "repr") (rReprD X.K) := by
  intro pins s σ H xs us Q I r h
  obtain ⟨a, d, rfl, hd, sh, nd, dp, sz, q⟩ := h
  obtain ⟨u, rfl, ru⟩ := vals1 r
  obtain ⟨as, rd⟩ := Dp.reads I d _ u hd ru
  cases ru
  refine repr_of_reads' rd sh (fun z => by rw [nd] at z; cases z) gd (by omega) (fun _ _ e => e) (fun h' t tk keep => ?_) sz
  exact ⟨.str d.shown, H, I.kept keep, ⟨t, rfl⟩, q⟩
end
def headH (a : Addr) (o : HO) (own : Bool) : Hp := fun b => if b = a ∧ own = true then some o else none
theorem headH_own {a b : Addr} {o : HO} {own : Bool} (h : headH a o own b ≠ none) : b = a ∧ own = true := by
  unfold headH at h
  by_cases z : b = a ∧ own = true
  · exact z
  · rw [if_neg z] at h
    exact absurd rfl h
theorem headH_at {a b : Addr} {o u : HO} {own : Bool} (h : headH a o own b = some u) : b = a ∧ own = true ∧ u = o := by
  obtain ⟨rfl, e⟩ := headH_own (a := a) (b := b) (o := o) (own := own) (by rw [h]; simp)
  unfold headH at h
  rw [if_pos ⟨rfl, e⟩] at h
  exact ⟨rfl, e, (Option.some.inj h).symm⟩
theorem law_goC {P : Program} {w : World} {K : PySem.W.Frag} {mg mb : Str → Option Value} {CX : CXT} {k : Nat} {fa a : Addr} {fd : FuncData} {x : Str} {sp : Sp} {s : Shared} {vs : List Value} {ns : List Int}
    (kin : K.In s.heap) (nsG : s.heap.Ns mainGlobals mg) (nsB : s.heap.Ns builtinsNs mb) (boot : ∀ x : Str, x ≠ "__name__" → mb x = bootBuiltins x) (noLim : s.heap.NoLimit) (noGen : s.gens = #[])
    (at_ : s.heap.get? a = some { cls := .type "list", data := .seq vs.toArray }) (nsAre : IntsAre vs ns) (short : ns.length ≤ sizeLine) (room : Room k callerA)
    (F : ∀ base : Heap, K.In base → base.Ns mainGlobals mg → FnC P w K mg base CX k fa fd [x] sp) (binds : ∀ (s : Shared) (u : Value), BindsTo s fd ⟨[u], []⟩ [(x, u)])
    (start : ∀ H : Hp, Only H → SqL K H a (ns.map V.int) → sp [.ref a] H (fun v _ => v = .bl true) fun _ _ _ => False) (noExc : ∀ H e s', CX [] H s (fun _ _ _ => False) e s' → False) :
    codeAny (model P w) callerA (.call (.ref fa) ⟨[.ref a], []⟩) (fun r s' => r = .ok (.ret (.bool true)) ∧ OldK s.heap s'.heap ∧ s'.os = s.os ∧ AllBare s'.gens) s := by
  have rv := vals_ints nsAre
  have sizeV := nsAre.length
  obtain ⟨own, hown, hk⟩ : ∃ own : Bool, (own = true → K.lookup a = none) ∧ (own = false → ∃ o, K.lookup a = some o) := by
    cases e : K.lookup a with
    | none => exact ⟨true, fun _ => rfl, fun z => by cases z⟩
    | some o => exact ⟨false, fun z => (by cases z), fun _ => ⟨o, rfl⟩⟩
  let ob : HO := .frz { cls := .type "list", data := .seq vs.toArray } (.lst (ns.map V.int))
  let H : Hp := headH a ob own
  have only : Only H := fun b => by
    cases e : H b with
    | none => exact .inl rfl
    | some u =>
      obtain ⟨_, _, rfl⟩ := headH_at e
      exact .inr ⟨_, _, rfl⟩
  have hok : HOk P w H s.heap := fun b u e => by
    obtain ⟨rfl, _, rfl⟩ := headH_at e
    exact ⟨at_, by rw [List.length_map]; exact short, vs, _, rv, at_⟩
  have seen : SqL K H a (ns.map V.int) := by
    cases own with
    | true => exact .inl (.inr ⟨{ cls := .type "list", data := .seq vs.toArray }, if_pos ⟨rfl, rfl⟩⟩)
    | false =>
      obtain ⟨o, ho⟩ := hk rfl
      have e := kin a o ho
      rw [at_] at e
      cases e
      exact .inr ⟨_, vs.toArray, _, ho, rfl, rfl, rfl, by rw [List.size_toArray, sizeV]; exact short, by simpa using rv⟩
  have off : ∀ {b : Addr} {o : Obj}, s.heap.get? b = some o → H b = none → (hidT s.heap H).get? b = some o := fun e n => hidT_get e n
  have dictOff : ∀ {b : Addr} {o : Obj} {es : Array DictEntry} {n : Nat}, s.heap.get? b = some o → o.data = .dict es n → H b = none := fun {b o es n} e d => by
    cases q : H b with
    | none => rfl
    | some u =>
      obtain ⟨rfl, _, _⟩ := headH_at q
      rw [at_] at e
      cases e
      cases (show Data.seq vs.toArray _ = Data.dict es n from d)
  have nsOff : ∀ {b : Addr} {m : Str → Option Value}, s.heap.Ns b m → (hidT s.heap H).Ns b m := fun {_ _} ⟨o, es, n, e, d, r⟩ => ⟨o, es, n, off e (dictOff e d), d, r⟩
  have kin2 : K.In (hidT s.heap H) := fun b o e => off (kin b o e) (by
    cases q : H b with
    | none => rfl
    | some u =>
      obtain ⟨rfl, z, _⟩ := headH_at q
      rw [hown z] at e
      cases e)
  have md : Mod K mg (hidT s.heap H) := by
    obtain ⟨mc, l1, l2⟩ := noLim
    exact ⟨kin2, nsOff nsG, ⟨mb, nsOff nsB, boot⟩, ⟨mc, nsOff l1, l2⟩⟩
  have env : Env0 P w K mg (hidT s.heap H) callerA [] s H := ⟨rfl, md, fun _ _ e => of_hidT e, Nat.le_of_eq (hidT_size _ _), trivial, fun _ hb => absurd hb (by intro z; cases z), hok, .of_eq noGen⟩
  refine codeAny_mono ((F _ kin2 (nsOff nsG)).go callerA rfl [] s H ⟨[.ref a], []⟩ [.ref a] [.ref a] _ _ room env (binds s (.ref a)) (.cons rfl .nil) (start H only seen)) fun r s' h => ?_
  match r, h with
  | .error e, h => exact (noExc H e s' h).elim
  | .ok .next, h => exact h.elim
  | .ok .brk, h => exact h.elim
  | .ok .cont, h => exact h.elim
  | .ok (.ret u), ⟨v, H', os, bare, un, hok', r', q⟩ =>
    obtain rfl : v = .bl true := q
    obtain rfl : u = Value.bool true := r'
    refine ⟨rfl, OldK.of_keep fun b o e => ?_, os, bare⟩
    cases q : H b with
    | none => exact un.keep b o e q (fun z => by cases z) (fun z => by cases z)
    | some t =>
      obtain ⟨rfl, _, rfl⟩ := headH_at q
      obtain ⟨e1, _⟩ := hok _ _ q
      obtain ⟨e2, _⟩ := hok' _ _ (un.frzs _ _ _ q)
      rw [e] at e1
      cases e1
      exact e2
theorem walkC_of {l : PySem.W.OpenLaw} {n k : Nat} {q : Program} {loose : List Str} {XP : (Str → Option Value) → Heap → Prop} {YP : World → Heap → Prop} {d : DefRec} {K : Params → PySem.W.Frag} {CX : World → CXT} {sp : World → Sp} {x : Str}
    (hn : l.most = some n) (hz : n ≤ sizeLine) (nod : d.params.defaults = []) (room : Room k callerA) (hY : ∀ (w : World) (h : Heap), YP w h → (K w.params).In h)
    (F : ∀ (w : World) (mg : Str → Option Value) (fa : Addr) (h : Heap), (K w.params).In h → h.Ns mainGlobals mg → mg d.name = some (.ref fa) →
      ∃ fd : FuncData, (∀ (s : Shared) (u : Value), BindsTo s fd ⟨[u], []⟩ [(x, u)]) ∧ ∀ base : Heap, (K w.params).In base → base.Ns mainGlobals mg → FnC l.prog w (K w.params) mg base (CX w) k fa fd [x] (sp w))
    (st : ∀ (w : World) (H : Hp) (a : Addr) (ns : List Int), ns.length ≤ n → Only H → SqL (K w.params) H a (ns.map V.int) → sp w [.ref a] H (fun v _ => v = .bl true) fun _ _ _ => False)
    (noExc : ∀ (w : World) (H : Hp) (s : Shared) (e : Value) (s' : Shared), CX w [] H s (fun _ _ _ => False) e s' → False) : PySem.W.WalkO q loose XP YP l.row.toRowW d [] (fun f vs => PySem.call f vs) := by
  refine Att.attach_call hn nod fun w _ s mg mb fa o pm cd doc a vs ns G Y ho hd hcd hmg hobj hints hlen hg => ?_
  have kin := hY w _ Y
  obtain ⟨fd, bn, hF⟩ := F w mg fa _ kin G.T.g hmg
  exact law_goC kin G.T.g G.T.b G.T.builtins G.T.nolimit hg hobj hints (Nat.le_trans hlen hz) room hF bn (fun H hO hS => st w H a ns hlen hO hS) fun H e s' => noExc w H s e s'
end Wm
namespace Wm
open PySem L2 PySem.Spec PySem.W PySem.SeqAt
open PyProof.Rows hiding St
section
variable {X : Cx}
end
def G5Row (H : Hp) (x : Str × G5) (v : V) : Prop := ∃ r t, v = .ref r ∧ H r = some (.tup [.str x.1, .ref t]) ∧ H t = some (.tup (x.2.l.map V.str))
theorem G5Row.hid {H : Hp} {D : Addr} {xs : List V} {x : Str × G5} {v : V} (h : G5Row H x v) (e : H D = some (.lst xs)) : G5Row (hid D H) x v := by
  obtain ⟨r, t, rfl, e1, e2⟩ := h
  exact ⟨r, t, rfl, hid_at (ne_of e1 e (by intro z; cases z)) e1, hid_at (ne_of e2 e (by intro z; cases z)) e2⟩
theorem G5Row.same {H H' : Hp} {x : Str × G5} {v : V} (h : G5Row H x v) (s : Same H H') : G5Row H' x v := by
  obtain ⟨r, t, rfl, e1, e2⟩ := h
  exact ⟨r, t, rfl, s _ _ e1, s _ _ e2⟩
theorem strs_depth : ∀ l : List Str, PyData.depthAll (l.map PyData.str) = 0
  | [] => rfl
  | a :: l => by
    rw [List.map_cons, PyData.depthAll, strs_depth l]
    rfl
def bareW (st : Str) : Wk := { start := st, gs := [], out := [], anew := [], lim := none, frees := true }
theorem GRowAt.step {CG p c : Addr} {H H' : Hp} {x : Str × G5} {v : V} (h : GRowAt CG H x v) (hp : PenAt H p c) (t : PenStep p c H H') : GRowAt CG H' x v := by
  obtain ⟨r, gv, rfl, e1, ga, gdx, rfl, e2⟩ := h
  exact ⟨r, _, rfl, t.at hp e1 rfl, ga, gdx, rfl, t.at hp e2 rfl⟩
theorem pairs_step {p c : Addr} {H H' : Hp} {l : List (Str × Str)} {vs : List V} (h : All2 (PairAt H) l vs) (hp : PenAt H p c) (t : PenStep p c H H') : All2 (PairAt H') l vs := all2_pairs h (tx_step hp t)
theorem due_gs {H : Hp} {GS : List (Str × G5)} : ∀ {l : List Row} {gs : List (Str × G5)} {ys : List V}, l.map Row.name = gs.map (·.1) → All2 (fun (r : Row) y => ∀ g, (r.name, g) ∈ GS → G5Row H (r.name, g) y) l ys → (∀ x, x ∈ gs → x ∈ GS) → All2 (G5Row H) gs ys
  | [], [], _, _, h, _ => by
    cases h
    exact .nil
  | r :: l, x :: gs, _, e, h, hs => by
    rw [List.map_cons, List.map_cons, List.cons.injEq] at e
    cases h with
    | cons h1 h2 =>
      have hx := h1 x.2 (by rw [e.1]; exact hs x (by simp))
      rw [e.1] at hx
      exact .cons hx (due_gs e.2 h2 fun y hy => hs y (by simp [hy]))
  | [], x :: gs, _, e, _, _ => by simp at e
  | r :: l, [], _, e, _, _ => by simp at e
theorem rows_gs {rows : List Row} {w : Wk} (hok : SchOk rows) (hw : WkOk rows w) : (rows.filter fun r => decide (r.name ∈ w.gs.map (·.1))).map Row.name = w.gs.map (·.1) := by
  have h := filt_sub hw.gs hok.ok.nd
  unfold names at h
  rw [List.filter_map] at h
  exact h
theorem gs_find {gs : List (Str × G5)} {n : Str} {g : G5} (nd : (gs.map (·.1)).Nodup) (h : (n, g) ∈ gs) : (gs.find? fun x => x.1 == n) = some (n, g) := by
  induction gs with
  | nil => cases h
  | cons x gs ih =>
    rw [List.map_cons, List.nodup_cons] at nd
    rcases List.mem_cons.mp h with rfl | h
    · simp
    · have hx : x.1 ≠ n := fun z => nd.1 (z ▸ List.mem_map_of_mem h)
      rw [List.find?_cons_of_neg (by simpa using hx)]
      exact ih nd.2 h
def LoT (H : Hp) (D : Addr) : Prop := (∃ xs, H D = some (.lst xs)) ∨ ∃ xs, H D = some (.tup xs)
theorem LoT.clear {H : Hp} {D E : Addr} (h : LoT H D) : LoT (upd H E (.lst [])) D := by
  by_cases e : D = E
  · exact .inl ⟨[], by rw [e]; exact upd_same⟩
  · exact h.imp (fun ⟨xs, z⟩ => ⟨xs, (upd_ne e).trans z⟩) (fun ⟨xs, z⟩ => ⟨xs, (upd_ne e).trans z⟩)
theorem LoT.same {H H' : Hp} {D : Addr} (h : LoT H D) (s : Same H H') : LoT H' D := h.imp (fun ⟨xs, z⟩ => ⟨xs, s _ _ z⟩) (fun ⟨xs, z⟩ => ⟨xs, s _ _ z⟩)
theorem but_upd {H : Hp} {D : Addr} {o : HO} : But D H (upd H D o) := fun _ _ n e => (upd_ne n).trans e
end Wm
namespace Wm
open PySem L2 PySem.Spec PySem.W PySem.SeqAt
open PyProof.Rows hiding St
def pairD (x : Str × Str) : PyData := .tuple [.str x.1, .str x.2]
theorem dps_pairD {K : PySem.W.Frag} {H : Hp} : ∀ {l : List (Str × Str)} {vs : List V}, All2 (PairAt H) l vs → DpAll K H vs (l.map pairD)
  | _, _, .nil => .nil
  | _, _, .cons h t => by
    obtain ⟨q, rfl, e⟩ := h
    exact .cons (.tup (.of e) (.cons (.str _) (.cons (.str _) .nil))) (dps_pairD t)
theorem pairs_plain : ∀ l : List (Str × Str), PyData.plainAll (l.map pairD) = true
  | [] => rfl
  | x :: l => by
    rw [List.map_cons, PyData.plainAll, pairs_plain l]
    rfl
theorem pairs_depth : ∀ l : List (Str × Str), PyData.depthAll (l.map pairD) ≤ 1
  | [] => by simp [PyData.depthAll]
  | x :: l => by
    have := pairs_depth l
    have h : (pairD x).depth = 1 := by simp [pairD, PyData.depth, PyData.depthAll]
    rw [List.map_cons, PyData.depthAll, h]
    omega
def limD : Option Nat → PyData
  | none => .none
  | some n => .int (n : Nat)
end Wm
namespace Wm
open PySem PySem.Spec PySem.W PySem.SeqAt
open AutoSeq1 (wpAny_loadPart')
open MeetsSeq MeetsSeq2 MeetsSeq3 SeqRoads2
def EqKeep (prog : Program) (w : World) (A : Around) (P : Shared → Prop) (y x : Value) : Prop :=
  ∀ s, P s → ∀ (E : Value → Shared → Prop) (Q : Bool → Shared → Prop), (∀ s', P s' → Q true s') → wpAny (model prog w) A (eqBool y x) Q E s
def RcKeep (prog : Program) (w : World) (A : Around) (P : Shared → Prop) (y x : Value) : Prop :=
  ∀ s, P s → ∀ (E : Value → Shared → Prop) (Q : Value → Shared → Prop), (∀ s', P s' → Q (.bool true) s') → wpAny (model prog w) A (richCompare .Eq y x) Q E s
section
variable {prog : Program} {w : World} {A : Around} {P : Shared → Prop}
theorem EqKeep.at {y x : Value} (h : ∀ s, P s → EqAt A s y x true) : EqKeep prog w A P y x := fun s p E Q k => h s p prog w E Q (k s p)
theorem EqKeep.refs {l b : Addr} (h : RcKeep prog w A P (.ref l) (.ref b)) : EqKeep prog w A P (.ref l) (.ref b) := fun s p E Q k => by
  by_cases e : l = b
  · subst e
    exact EqAt.same (.ref l) prog w E Q (k s p)
  · unfold eqBool
    refine wpAny_holding (wpAny_ite_split (fun z => absurd (Value.ref.inj (eq_of_beq z)) e) fun _ => ?_)
    exact wpAny_bind (h s p E _ fun s' p' => wpAny_truthy_bool (k s' p'))
theorem tuple_keep (l b : Addr) (xs ys : Array Value) (n m : Nat) (dd de : Option Addr) (sl sm : Array (Option Value)) : MeetsIn prog w (Builtin.«tuple.__eq__» ⟨[.ref l, .ref b], []⟩)
    (fun A R s => s.heap.get? l = some { cls := .type "tuple", dict := dd, data := .seq xs n, slots := sl } ∧ s.heap.get? b = some { cls := .type "tuple", dict := de, data := .seq ys m, slots := sm } ∧
      xs.size = ys.size ∧ P s ∧ (∀ j (h1 : j < xs.size) (h2 : j < ys.size), EqKeep prog w A.in1 P xs[j] ys[j]) ∧ ∀ s', P s' → R (.ok (.ret (.bool true))) s') :=
  .of_wp fun A R s h => by
    obtain ⟨hp, g, d, tk, os⟩ := s
    obtain ⟨hl, hb, hsz, hP, he, hR⟩ := h
    have f2 := AutoSeq1.sub_tuple_tuple
    have lenZ : (xs.toList.zip ys.toList).length = xs.size := by simp [hsz]
    wp_walk using wpAny_loadPart' hl, wpAny_loadPart' hb, wpAny_forIn_list _ (fun rest q s' => q.1 = none ∧ P s' ∧ ∃ i, rest = (xs.toList.zip ys.toList).drop i) _
    case turn =>
      rintro ⟨y, x⟩ rest q s' ⟨hq, p', i, hz⟩
      have hlt : i < (xs.toList.zip ys.toList).length := Nat.lt_of_not_le fun z => by
        rw [List.drop_of_length_le z] at hz
        cases hz
      have h1 : i < xs.size := lenZ ▸ hlt
      have h2 : i < ys.size := hsz ▸ h1
      rw [List.drop_eq_getElem_cons hlt] at hz
      injection hz with hyx hrest
      obtain rfl : y = xs[i] := by simpa using congrArg Prod.fst hyx
      obtain rfl : x = ys[i] := by simpa using congrArg Prod.snd hyx
      refine wpAny_bind (he i h1 h2 s' p' _ _ fun s2 p2 => ?_)
      wp_walk
      exact ⟨rfl, p2, i + 1, hrest⟩
    case fin =>
      rintro ⟨q1, q2⟩ s' ⟨hq, p', i, hz⟩
      simp only at hq
      subst hq
      wp_walk
      exact ⟨_, rfl, by simpa [Builtin.Tuple.tupleCompareSizes, hsz] using hR s' p'⟩
    case h => exact ⟨rfl, hP, 0, rfl⟩
theorem rc_tuples {l b : Addr} {xs ys : Array Value} (hu : A.units < cLine) (hsz : xs.size = ys.size) {s : Shared} (p : P s) (h1 : s.heap.IsTuple l xs) (h2 : s.heap.IsTuple b ys) (he : ∀ j (h1 : j < xs.size) (h2 : j < ys.size), EqKeep prog w A.in1 P xs[j] ys[j])
    {E : Value → Shared → Prop} {Q : Value → Shared → Prop} (k : ∀ s', P s' → Q (.bool true) s') : wpAny (model prog w) A (richCompare .Eq (.ref l) (.ref b)) Q E s := by
  obtain ⟨⟨c1, dd, da, sl⟩, ho, hc, n, hd⟩ := h1
  obtain ⟨⟨c2, de, db, sm⟩, ho2, hc2, m, hd2⟩ := h2
  simp only at hc hd hc2 hd2
  subst hc hd hc2 hd2
  exact wpAny_richCompare_same_room (T := "tuple") (op := .Eq) ⟨_, ho, rfl⟩ ⟨_, ho2, rfl⟩ F.slot_tuple_eq (call_meetsIn F.slot_tuple_eq ⟨_, ho, rfl⟩ F.entry_tuple_eq (F.args_tuple_eq_2 _ _) (tuple_keep (P := P) l b xs ys n m dd de sl sm)
    ⟨ho, ho2, hsz, p, he, fun s' p' => show Value.bool true ≠ Value.notImplemented ∧ Q (.bool true) s' from ⟨(fun x => nomatch x), k s' p'⟩⟩) hu
end
section
variable {prog : Program} {w : World} {A : Around} {P : Shared → Prop} {k₀ : Type} [DecidableEq k₀] {knd : KeyKind prog w k₀}
theorem pairs_keep {nm : String} {a b : Addr} {ka kb : List (k₀ × Value)} {oa ob : Obj} {es fs : Array DictEntry} {ea eb : Nat} (na : (a == sysModules) = false) (nb : (b == sysModules) = false)
    (at_ : ∀ s, P s → s.heap.get? a = some oa ∧ s.heap.get? b = some ob) (da : oa.data = .dict es ea) (db : ob.data = .dict fs eb) (ka1 : KeysOf knd es) (kb1 : KeysOf knd fs) (pa : Pairs knd es.toList ka) (pb : Pairs knd fs.toList kb) (len : ka.length = kb.length)
    (hv : ∀ k v, (k, v) ∈ ka → ∃ y, valueAt kb k = some y ∧ EqKeep prog w A P v y) {s : Shared} (p : P s) {E : Value → Shared → Prop} {Q : Bool → Shared → Prop} (fin : ∀ s', P s' → Q true s') : wpAny (model prog w) A (Builtin.Dict.samePairs nm a b) Q E s := by
  have sza : ka.length = es.size := by rw [← pa.length]; exact Array.length_toList
  have szb : kb.length = fs.size := by rw [← pb.length]; exact Array.length_toList
  have sz : es.size = fs.size := by omega
  have look : ∀ k, findBy knd.is fs k = valueAt kb k := fun k => by
    rw [← pb.find k]
    clear szb pb kb1 db sz
    obtain ⟨l⟩ := fs
    simp [findBy]
  unfold Builtin.Dict.samePairs Builtin.Dict.showsAll
  rw [if_neg (show ¬ (a == sysModules) = true by rw [na]; exact Bool.false_ne_true), if_neg (show ¬ (b == sysModules) = true by rw [nb]; exact Bool.false_ne_true)]
  refine wpAny_bind (wpAny_pure (wpAny_bind (wpAny_pure (wpAny_bind (wpAny_dictEntries (at_ s p).1 da ?_)))))
  dsimp only
  refine wpAny_bind (wpAny_dictEntries (at_ s p).2 db ?_)
  rw [if_neg (by rw [sz]; simp)]
  refine wpAny_bind (wpAny_dictEpoch (at_ s p).1 da (wpAny_bind ?_))
  rw [Std.Legacy.Range.forIn_eq_forIn_range']
  simp only [Std.Legacy.Range.size, Nat.sub_zero, Nat.add_sub_cancel, Nat.div_one]
  refine wpAny_forIn_list _ (fun rest q s' => P s' ∧ q = (none, ()) ∧ ∃ i, rest = List.range' i (es.size - i) ∧ i ≤ es.size) _ ?_ ?_ _ _ ⟨p, rfl, 0, by simp, Nat.zero_le _⟩
  · rintro x rest q s' ⟨p', rfl, i, hr, hi⟩
    have lt : i < es.size := Nat.lt_of_not_le fun z => by
      rw [Nat.sub_eq_zero_of_le z] at hr
      simp at hr
    have e1 : es.size - i = (es.size - (i + 1)) + 1 := by omega
    rw [e1, List.range'_succ] at hr
    obtain ⟨rfl, hrest⟩ := List.cons.inj hr
    refine wpAny_bind (wpAny_dictEntries (at_ s' p').1 da ?_)
    rw [Array.getElem?_eq_getElem lt]
    have lt' : x < ka.length := by omega
    obtain ⟨k, v, hkv⟩ : ∃ k v, ka[x] = (k, v) := ⟨_, _, rfl⟩
    have mem : (k, v) ∈ ka := hkv ▸ List.getElem_mem lt'
    obtain ⟨hkey, hval⟩ := pa.get? (i := x) (e := es[x]) (k := k) (v := v) (by rw [Array.getElem?_toList]; exact Array.getElem?_eq_getElem lt) (by rw [List.getElem?_eq_getElem lt', hkv])
    obtain ⟨k2, hk2, hh⟩ := ka1 es[x] (Array.getElem_mem lt)
    rw [knd.inj _ _ _ hk2 hkey] at hh
    obtain ⟨y, hy, he⟩ := hv k v mem
    show wpAny _ _ (holding [es[x].key, es[x].val] _ >>= _) _ _ _
    rw [hh]
    refine wpAny_bind (wpAny_holding (wpAny_bind (wpAny_dictFind_of hkey (at_ s' p').2 db kb1 ?_)))
    cases hj : fs.findIdx? fun e => knd.is k e.key with
    | none =>
      have : valueAt kb k = none := by rw [← look k, findBy_of_findIdx?, hj]
      rw [hy] at this
      cases this
    | some j =>
      obtain ⟨hjlt, _, _⟩ := Array.findIdx?_eq_some_iff_getElem.mp hj
      have hv' : valueAt kb k = some fs[j].val := by
        rw [← look k, findBy_of_findIdx?, hj]
        simp [Array.getElem?_eq_getElem hjlt]
      refine wpAny_bind (wpAny_dictEntries (at_ s' p').2 db ?_)
      rw [Array.getElem?_eq_getElem hjlt]
      obtain rfl : fs[j].val = y := Option.some.inj (hv'.symm.trans hy)
      rw [← hval] at he
      refine wpAny_holding (he s' p' _ _ fun s2 p2 => ?_)
      show wpAny _ _ (if (!true) = true then _ else _) _ _ _
      rw [if_neg (by decide)]
      refine wpAny_bind (wpAny_dictEpoch (at_ s2 p2).1 da ?_)
      rw [if_neg (by simp)]
      exact wpAny_pure ⟨p2, rfl, x + 1, hrest, lt⟩
  · rintro q s' ⟨p', rfl, i, hr, hi⟩
    exact wpAny_pure (fin s' p')
theorem RcKeep.dicts {a b : Addr} {ka kb : List (k₀ × Value)} {oa ob : Obj} {es fs : Array DictEntry} {ea eb : Nat} (hu : A.units < cLine) (na : (a == sysModules) = false) (nb : (b == sysModules) = false)
    (at_ : ∀ s, P s → s.heap.get? a = some oa ∧ s.heap.get? b = some ob) (xa : oa.ExactDict) (xb : ob.ExactDict) (da : oa.data = .dict es ea) (db : ob.data = .dict fs eb) (ka1 : KeysOf knd es) (kb1 : KeysOf knd fs) (pa : Pairs knd es.toList ka) (pb : Pairs knd fs.toList kb) (len : ka.length = kb.length)
    (hv : ∀ k v, (k, v) ∈ ka → ∃ y, valueAt kb k = some y ∧ EqKeep prog w A.in1 P v y) : RcKeep prog w A P (.ref a) (.ref b) := fun s p E Q fin => by
  have ta : s.TypeIs (.ref a) "dict" := ⟨oa, (at_ s p).1, xa.1⟩
  have tb : s.TypeIs (.ref b) "dict" := ⟨ob, (at_ s p).2, xb.1⟩
  refine wpAny_richCompare_same_room (op := .Eq) ta tb PySem.F.slot_dict_eq (wpAny_call_entry PySem.F.slot_dict_eq ta PySem.F.entry_dict_eq ?_ (PySem.F.args_dict_eq_2 _ _)) hu
  show wpAny _ _ (Builtin.Dict.dictSlotArgs "__eq__" ⟨[.ref a, .ref b], []⟩ >>= _) _ _ s
  refine wpAny_bind ?_
  unfold Builtin.Dict.dictSlotArgs
  refine wpAny_bind (wpAny_notOrdered_dict ta (wpAny_pure ?_))
  refine wpAny_bind (wpAny_isInstance (T := "dict") tb PySem.F.sub_dict_dict ?_)
  simp only [Bool.not_true, Bool.false_eq_true, if_false]
  refine wpAny_bind (wpAny_pure (wpAny_bind (wpAny_pure (wpAny_bind (pairs_keep na nb at_ da db ka1 kb1 pa pb len hv p fun s' p' => ?_)))))
  exact wpAny_pure ⟨_, rfl, (fun x => nomatch x), by simpa using fin s' p'⟩
end
section
open L2
open PyProof.Rows hiding St
def PP (X : Cx) (pins : List (Addr × Obj)) (σ : St) (H : Hp) (s : Shared) : Prop := ∃ H', Same H H' ∧ L2.Inv X pins σ H' s
def VK (X : Cx) (A : Around) (H : Hp) (v y : V) : Prop := ∀ pins σ u z, RelV v u → RelV y z → EqKeep X.prog X.w A (PP X pins σ H) u z
theorem VK.plain {X : Cx} {A : Around} {H : Hp} {v y : V} {d : PyData} (hv : Dp X.K H v d) (hy : Dp X.K H y d) (pl : d.plain = true) (hu : A.units + d.depth < cLine) (hs : ∀ H' x, Same H H' → Dp X.K H x d → Dp X.K H' x d) : VK X A H v y := fun pins σ u z ru rz =>
  EqKeep.at fun s ⟨H', sm, I⟩ => by
    obtain ⟨as, r1⟩ := Dp.reads I d v u (hs _ _ sm hv) ru
    obtain ⟨bs, r2⟩ := Dp.reads I d y z (hs _ _ sm hy) rz
    have h := eqAt_plain d d A s u z as bs r1 r2 pl pl (by omega)
    rwa [eqv_refl_plain d pl] at h
theorem VK.tuple {X : Cx} {A : Around} {H : Hp} {p q : Addr} {xs ys : List V} (hp : SqT X.K H p xs) (hq : SqT X.K H q ys) (hu : A.units < cLine) (h : PySem.Paired (fun v y => VK X A.in1 H v y) xs ys) : VK X A H (.ref p) (.ref q) := fun pins σ u z ru rz => by
  cases ru
  cases rz
  refine EqKeep.refs ?_
  intro s ⟨H', sm, I⟩ E Q k
  obtain ⟨us, r1, t1, _⟩ := I.tuple (same_seqT sm hp)
  obtain ⟨zs, r2, t2, _⟩ := I.tuple (same_seqT sm hq)
  have items : ∀ {xs ys : List V} {us zs : List Value}, PySem.Paired (fun v y => VK X A.in1 H v y) xs ys → Vals xs us → Vals ys zs → us.length = zs.length ∧ ∀ j (h1 : j < us.length) (h2 : j < zs.length), EqKeep X.prog X.w A.in1 (PP X pins σ H) us[j] zs[j] := by
    intro xs ys us zs hh
    induction hh generalizing us zs with
    | nil =>
      intro r1 r2
      cases r1
      cases r2
      exact ⟨rfl, fun j h1 _ => absurd h1 (by simp)⟩
    | cons h0 _ ih =>
      intro r1 r2
      cases r1 with
      | cons a1 b1 =>
        cases r2 with
        | cons a2 b2 =>
          obtain ⟨l, f⟩ := ih b1 b2
          refine ⟨by simp [l], fun j h1 h2 => ?_⟩
          cases j with
          | zero => exact h0 pins σ _ _ a1 a2
          | succ j => exact f j (by simpa using h1) (by simpa using h2)
  obtain ⟨hl, he⟩ := items h r1 r2
  exact rc_tuples (P := PP X pins σ H) hu (by simpa using hl) ⟨H', sm, I⟩ t1 t2 (fun j h1 h2 => he j (by simpa using h1) (by simpa using h2)) k
theorem VK.own {X : Cx} {A : Around} {H : Hp} {CX : CXT} {C f a b dx : Addr} {fs : List (Str × V)} {fd : FuncData} {ps : List Str} {k : Nat} {sp : Sp} {tb : Value} (F : FnOk X.prog X.w X.K X.mg X.base CX k f fd ps sp) (ncx : ∀ outer H s e s', CX outer H s (fun _ _ _ => False) e s' → False) (room : Room k A) (hA : A.frames = X.A.frames)
    (hm : Meth X.K C "__eq__" f) (hb : L2.Binds X.K fd ps []) (ha : H a = some (.ins C dx fs)) (ty : ∀ H', Same H H' → TyX X.K H' (.ref b) tb) (n : PySem.W.notFirst X.K C tb = true) (hsp : ∀ H', Same H H' → sp [.ref a, .ref b] H' (fun v H'' => v = .bl true ∧ Same H' H'') (fun _ _ _ => False)) : VK X A H (.ref a) (.ref b) := fun pins σ u z ru rz => by
  cases ru
  cases rz
  refine EqKeep.refs ?_
  intro s ⟨H', sm, I⟩ E Q kk
  obtain ⟨mA, J, _⟩ := ins_get I.hok (sm _ _ ha)
  obtain ⟨od, J, _⟩ := J.look
  obtain ⟨m, hF⟩ := I.fr
  obtain ⟨PP1, Z, hp, _⟩ := kit_of I (show RelV (.ref b) (.ref b) from rfl) (ty H' sm)
  refine PySem.W.cmp_K (op := .Eq) (tb := tb) room.units0 hF I.ok.mod.kin J (Z.ty _ _ I.kIn hp) n hm.at_ hm.fn ?_
  have q := hsp H' sm
  have hl : [Value.ref a, .ref b].length = ps.length := F.len _ _ _ _ q
  have e0 : Env0 X.prog X.w X.K X.mg X.base A X.stack s H' := { I.env0 with frames := hA.trans I.env0.frames }
  refine wpAny_call (codeAny_mono (F.run A X.stack s H' ⟨[.ref a, .ref b], []⟩ [.ref a, .ref b] [.ref a, .ref b] _ _ room e0 (by have := hb s [.ref a, .ref b] I.kIn (by rw [List.append_nil]; exact hl); rwa [List.append_nil] at this) (.cons rfl (.cons rfl .nil)) q) fun r s' hq => ?_)
  match r, hq with
  | .error e, hq => exact (ncx _ _ _ _ _ hq).elim
  | .ok (.ret u), hq =>
    obtain ⟨v, H2, I2, rv, rfl, s2⟩ := I.after hq
    cases rv
    exact kk s' ⟨H2, sm.trans s2, I2⟩
  | .ok .next, hq => exact hq.elim
  | .ok .brk, hq => exact hq.elim
  | .ok .cont, hq => exact hq.elim
end
end Wm
namespace Wm
open PySem L2 PySem.Spec PySem.W PySem.SeqAt
open PyProof.Rows hiding St
theorem WkrIn.butD {CW CG S a D : Addr} {H H' : Hp} {w : Wk} {dx gt ot nt : Addr} {gvs ovs nvs : List V} {ks : List (Key × V)} (i : WkrIn CW CG H S w a dx gt ot nt gvs ovs nvs) (e : H D = some (.dK ks)) (s : But D H H') : WkrIn CW CG H' S w a dx gt ot nt gvs ovs nvs := by
  have k : ∀ {b : Addr} {o : HO}, H b = some o → (∀ ys, o ≠ .dK ys) → H' b = some o := fun hb n => s _ _ (fun z => by
    rw [z, e] at hb
    cases hb
    exact n _ rfl) hb
  have t : Tx H H' := fun b ys hb => k hb (fun _ z => by cases z)
  obtain ⟨og, h1, h2⟩ := i.gat
  refine ⟨k i.at_ (fun _ z => by cases z), ⟨og, h1, k h2 (fun _ z => by cases z)⟩, i.g.mono (fun _ _ z => ?_), t _ _ i.oat, all2_pairs i.o t, t _ _ i.nat, all2_pairs i.n t⟩
  obtain ⟨q, gv, e1, e2, ga, gdx, e3, e4⟩ := z
  exact ⟨q, gv, e1, t _ _ e2, ga, gdx, e3, k e4 (fun _ z => by cases z)⟩
section
variable {X : Cx} {CX : CXT} {CG CW f : Addr} {fd : FuncData} {ps : List Str}
end
def spParts (CW CG : Addr) : Sp := fun vs H Q _ => ∃ (a S : Addr) (w : Wk) (dx gt ot nt : Addr) (gvs ovs nvs : List V), vs = [.ref a] ∧ WkrIn CW CG H S w a dx gt ot nt gvs ovs nvs ∧ ∀ q H', Same H H' → H q = none → H' q = some (.dK (pkvs (.str w.start) (.ref gt) (.ref ot) (.ref nt) (limV w.lim) w.frees)) → Q (.ref q) H'
end Wm
namespace Wm
open PySem L2 PySem.Spec PySem.W PySem.SeqAt
open PyProof.Rows hiding St
theorem WkrIn.sameW {CW CG S a : Addr} {H H' : Hp} {w : Wk} {dx gt ot nt : Addr} {gvs ovs nvs : List V} (i : WkrIn CW CG H S w a dx gt ot nt gvs ovs nvs) (s : Same H H') : WkrIn CW CG H' S w a dx gt ot nt gvs ovs nvs := by
  have t := tx_same s
  exact ⟨s _ _ i.at_, i.gat.same s, i.g.mono (fun _ _ z => z.same s), s _ _ i.oat, all2_pairs i.o t, s _ _ i.nat, all2_pairs i.n t⟩
theorem cx_no {P : Program} {w : World} : ∀ outer H s e s', L2.CX P w outer H s (fun _ _ _ => False) e s' → False := fun _ _ _ _ _ z => by
  obtain ⟨_, _, _, _, _, _, _, _, _, _, _, _, h⟩ := z
  exact h
end Wm
namespace Wm
open PySem L2 PySem.Spec PySem.W PySem.SeqAt
open PyProof.Rows hiding St
section
variable {X : Cx} {body : List Stmt} {h₀ : ExceptHandler} {hds : List ExceptHandler} {l : List (Value × Nat × (Addr → Value → Option Addr → TS))} {pos : Pos} {tb : WX → TS} {Wout : WX}
end
end Wm
namespace Wm
open PySem L2 PySem.Spec PySem.W PySem.SeqAt
open PyProof.Rows hiding St
def FldV (H : Hp) (v : V) : Prop := (∃ x, v = .str x ∧ x.length ≤ sizeLine) ∨ (AnyV H v ∧ ∀ x, v ≠ .str x)
theorem FldV.same {H H' : Hp} {v : V} (h : FldV H v) (s : Same H H') : FldV H' v := h.imp id fun ⟨a, c⟩ => ⟨a.same s, c⟩
end Wm
namespace Wm
open PySem L2 PySem.Spec PySem.W PySem.SeqAt
open PyProof.Rows hiding St
def NoFld (K : PySem.W.Frag) (rows : List Row) (k : Str) (H : Hp) (v : V) : Prop := FldV H v ∧ (∀ x, x ∈ fieldsF rows k → v ≠ .str x.1) ∧ ∃ d, Dp K H v d ∧ d.plain = true ∧ d.depth ≤ 60
theorem NoFld.str {K : PySem.W.Frag} {rows : List Row} {k : Str} {H : Hp} {t : Str} (ht : t.length ≤ 100) (hn : ∀ x, x ∈ fieldsF rows k → t ≠ x.1) : NoFld K rows k H (.str t) := by
  refine ⟨.inl ⟨t, rfl, by rw [PySem.sizeLine_eq]; omega⟩, fun x hx e => hn x hx (V.str.inj e), .str t, .str t, rfl, ?_⟩
  simp [PyData.depth]
theorem NoFld.non {K : PySem.W.Frag} {rows : List Row} {k : Str} {H : Hp} : NoFld K rows k H .non := by
  refine ⟨.inr ⟨trivial, fun x z => ?_⟩, fun x hx e => ?_, .none, .non, rfl, ?_⟩
  · cases z
  · cases e
  · simp [PyData.depth]
theorem NoFld.bl {K : PySem.W.Frag} {rows : List Row} {k : Str} {H : Hp} (b : Bool) : NoFld K rows k H (.bl b) := by
  refine ⟨.inr ⟨trivial, fun x z => ?_⟩, fun x hx e => ?_, .bool b, .bl b, rfl, ?_⟩
  · cases z
  · cases e
  · simp [PyData.depth]
theorem NoFld.int {K : PySem.W.Frag} {rows : List Row} {k : Str} {H : Hp} (n : Int) : NoFld K rows k H (.int n) := by
  refine ⟨.inr ⟨trivial, fun x z => ?_⟩, fun x hx e => ?_, .int n, .int n, rfl, ?_⟩
  · cases z
  · cases e
  · simp [PyData.depth]
theorem NoFld.lst {K : PySem.W.Frag} {rows : List Row} {k : Str} {H : Hp} {b : Addr} {l : List Str} (e : H b = some (.lst (l.map V.str))) : NoFld K rows k H (.ref b) := by
  have hd : DpAll K H (l.map V.str) (l.map PyData.str) := dps_str l
  refine ⟨.inr ⟨.inl ⟨_, e⟩, fun x z => ?_⟩, fun x hx e => ?_, .list (l.map PyData.str), .lst (.of e) hd, ?_, ?_⟩
  · cases z
  · cases e
  · rw [PyData.plain]
    induction l with
    | nil => rfl
    | cons a l ih =>
      rw [List.map_cons, PyData.plainAll]
      have h : PyData.plainAll (l.map PyData.str) = true := by
        clear ih hd e
        induction l with
        | nil => rfl
        | cons b l ih2 =>
          rw [List.map_cons, PyData.plainAll, ih2]
          rfl
      rw [h]
      rfl
  · rw [PyData.depth, strs_depth]
    decide
theorem StpsAt.hid {H : Hp} {q D : Addr} {l : List Stp} {xs : List V} (h : StpsAt H q l) (n : q ≠ D) (e : H D = some (.lst xs)) : StpsAt (hid D H) q l := by
  obtain ⟨vs, h1, h2⟩ := h
  refine ⟨vs, hid_at n h1, h2.mono fun x v z => ?_⟩
  obtain ⟨t, rfl, z⟩ := z
  exact ⟨t, rfl, hid_at (ne_of z e (by intro z; cases z)) z⟩
def StpRef (H : Hp) (l : List Stp) (v : V) : Prop := ∃ q, v = .ref q ∧ StpsAt H q l
theorem StpRef.same {H H' : Hp} {l : List Stp} {v : V} (h : StpRef H l v) (s : Same H H') : StpRef H' l v := by
  obtain ⟨q, rfl, h⟩ := h
  exact ⟨q, rfl, h.same s⟩
theorem OddK.step {rows : List Row} {H H' : Hp} {p c : Addr} {v : V} (h : OddK rows H v) (hp : PenAt H p c) (t : PenStep p c H H') : OddK rows H' v := by
  rcases h with h | h | h | h | ⟨q, n, rfl, e⟩
  · exact .inl h
  · exact .inr (.inl h)
  · exact .inr (.inr (.inl h))
  · exact .inr (.inr (.inr (.inl h)))
  · exact .inr (.inr (.inr (.inr ⟨q, n, rfl, t.at hp e rfl⟩)))
end Wm
namespace Wm
open PySem L2 PySem.Spec PySem.W PySem.SeqAt
open PyProof.Rows hiding St
def NoSlotT (nm T : String) : Prop := fillsNumberSlot (.type T) nm = pure false
theorem no_or_tuple : NoSlotT "or" "tuple" := by unfold NoSlotT; kernel_rfl
theorem no_or_list : NoSlotT "or" "list" := by unfold NoSlotT; kernel_rfl
theorem no_or_str : NoSlotT "or" "str" := by unfold NoSlotT; kernel_rfl
theorem no_or_none : NoSlotT "or" "NoneType" := by unfold NoSlotT; kernel_rfl
section
variable {s : Shared} {K : Frag} {x C L f : Addr} {h₀ : Heap} {m : Str → Option Value} {ox : Obj} {od : Option Obj} {A : Around} {E : Value → Shared → Prop}
end
section
variable {X : Cx} {CX : CXT} {C f : Addr} {fd : FuncData} {ps : List Str} {k : Nat} {sp : Sp} {E : XK}
end
def rDictD : List V → Hp → L2.VK → Prop := fun xs H Q => ∃ a kvs, xs = [.ref a] ∧ H a = some (.dK kvs) ∧ ∀ p H', H p = none → Same H H' → H' p = some (.dK kvs) → Q (.ref p) H'
theorem c_dictD {X : Cx} : CallR X (.type "dict") rDictD := by
  intro pins s σ H xs us Q I r h
  obtain ⟨a, kvs, rfl, e, q⟩ := h
  obtain ⟨u, rfl, ru⟩ := vals1 r
  cases ru
  exact d_copyOf I (.inl e) fun p s' n I' => ⟨.ref p, _, I', rfl, q p _ n (same_new n) upd_same⟩
theorem r_dictD {H : Hp} {Q : L2.VK} {a : Addr} {kvs : List (Key × V)} (h : H a = some (.dK kvs)) (k : ∀ p H', H p = none → Same H H' → H' p = some (.dK kvs) → Q (.ref p) H') : rDictD [.ref a] H Q := ⟨a, kvs, rfl, h, k⟩
inductive Chg
  | lim (l : Option Nat)
  | fre (b : Bool)
  | sta (n : Str)
  | gua (n : Str) (g : G5)
  | fld (wd : Str) (p : Str × Str)
def fldsF : List Str := ["out", "on", "anew"]
def chgF : Chg → Wk → Wk
  | .lim l, w => { w with lim := l }
  | .fre b, w => { w with frees := b }
  | .sta n, w => { w with start := n }
  | .gua n g, w => { w with gs := (w.gs.filter fun x => !decide (x.1 = n)) ++ [(n, g)] }
  | .fld wd p, w => { w with out := (w.out.filter fun x => !decide (x = p)) ++ (if wd = "out" then [p] else []), anew := (w.anew.filter fun x => !decide (x = p)) ++ (if wd = "anew" then [p] else []) }
def ChgOk (rows : List Row) : Chg → Prop
  | .lim l => ∀ n, l = some n → n ≤ 20
  | .fre _ => True
  | .sta n => n ∈ names rows ∧ underF rows n ≠ []
  | .gua n g => n ∈ names rows ∧ G5Ok g
  | .fld wd p => wd ∈ fldsF ∧ p ∈ ownPairs rows
structure POk (rows : List Row) (w : Wk) : Prop where
  st : w.start ∈ names rows
  un : underF rows w.start ≠ []
  gn : ∀ x, x ∈ w.gs → x.1 ∈ names rows
  g5 : ∀ x, x ∈ w.gs → G5Ok x.2
  gnd : (w.gs.map (·.1)).Nodup
  on : ∀ x, x ∈ w.out → x ∈ ownPairs rows
  ond : w.out.Nodup
  nn : ∀ x, x ∈ w.anew → x ∈ ownPairs rows
  nnd : w.anew.Nodup
  dis : ∀ x, x ∈ w.anew → x ∉ w.out
  lim : ∀ m, w.lim = some m → m ≤ 20
theorem WkOk.pok {rows : List Row} {w : Wk} (hok : SchOk rows) (h : WkOk rows w) : POk rows w where
  st := h.st
  un := h.un
  gn := fun x hx => h.gs.subset (List.mem_map_of_mem hx)
  g5 := h.g5
  gnd := h.gs.nodup hok.ok.nd
  on := fun x hx => h.out.subset hx
  ond := h.out.nodup (own_pairs_nd hok.ok)
  nn := fun x hx => h.anew.subset hx
  nnd := h.anew.nodup (own_pairs_nd hok.ok)
  dis := fun x hx hy => h.dis x hy hx
  lim := h.lim
theorem POk.parts {K : PySem.W.Frag} {CG : Addr} {H : Hp} {rows : List Row} {w : Wk} {ga oa na : Addr} {gxs oxs nxs : List V} (h : POk rows w) (g1 : SqB K H ga gxs) (g2 : All2 (GRowAt CG H) w.gs gxs) (o1 : SqB K H oa oxs) (o2 : All2 (PairAt H) w.out oxs) (n1 : SqB K H na nxs) (n2 : All2 (PairAt H) w.anew nxs) : PartsIn K CG H rows w ga oa na gxs oxs nxs where
  gat := g1
  g := g2
  oat := o1
  o := o2
  nat := n1
  n := n2
  st := h.st
  un := h.un
  gn := h.gn
  gnd := h.gnd
  on := h.on
  ond := h.ond
  nn := h.nn
  nnd := h.nnd
  dis := h.dis
  lim := h.lim
theorem POk.lens {rows : List Row} {w : Wk} (hok : SchOk rows) (h : POk rows w) : w.gs.length ≤ 6 ∧ w.out.length ≤ 1000 ∧ w.anew.length ≤ 1000 := by
  have h0 := own_pairs_len (rows := rows) (k := 4) fun r hr => hok.ok.own_len hr
  have h1 := nd_len h.ond h.on
  have h2 := nd_len h.nnd h.nn
  have h3 := nd_len h.gnd (fun x hx => (by
    obtain ⟨y, hy, rfl⟩ := List.mem_map.mp hx
    exact h.gn y hy : x ∈ names rows))
  have h4 := hok.few
  unfold names at h3
  simp only [List.length_map] at h3
  omega
def ElV (H : Hp) (v : V) : Prop := (∃ x, v = .str x ∧ x.length ≤ sizeLine) ∨ v = .non ∨ (∃ b, v = .bl b) ∨ (∃ i, v = .int i) ∨ (∃ q xs, v = .ref q ∧ H q = some (.lst xs)) ∨ ∃ q, v = .ref q ∧ H q = some (.dK [])
theorem ElV.any {H : Hp} {v : V} (h : ElV H v) : AnyV H v := by
  rcases h with ⟨x, rfl, hl⟩ | rfl | ⟨b, rfl⟩ | ⟨i, rfl⟩ | ⟨q, n, rfl, e⟩ | ⟨q, rfl, e⟩
  · trivial
  · trivial
  · trivial
  · trivial
  · exact .inl ⟨_, e⟩
  · exact .inr (.inr ⟨_, e⟩)
theorem ElV.same {H H' : Hp} {v : V} (h : ElV H v) (s : Same H H') : ElV H' v := by
  rcases h with h | h | h | h | ⟨q, n, rfl, e⟩ | ⟨q, rfl, e⟩
  · exact .inl h
  · exact .inr (.inl h)
  · exact .inr (.inr (.inl h))
  · exact .inr (.inr (.inr (.inl h)))
  · exact .inr (.inr (.inr (.inr (.inl ⟨q, n, rfl, s _ _ e⟩))))
  · exact .inr (.inr (.inr (.inr (.inr ⟨q, rfl, s _ _ e⟩))))
theorem ElV.str {H : Hp} {v : V} (h : ElV H v) : (∃ x, v = .str x ∧ x.length ≤ sizeLine) ∨ (AnyV H v ∧ ∀ x, v ≠ .str x) := by
  rcases id h with ⟨x, rfl, hl⟩ | rfl | ⟨b, rfl⟩ | ⟨i, rfl⟩ | ⟨q, n, rfl, e⟩ | ⟨q, rfl, e⟩
  · exact .inl ⟨x, rfl, hl⟩
  all_goals exact .inr ⟨h.any, fun x z => by cases z⟩
theorem ElV.kn {H : Hp} {v : V} (h : ElV H v) : ∃ b, KnV H v b := by
  rcases h.str with ⟨x, rfl, hl⟩ | ⟨h1, h2⟩
  · exact ⟨_, .inl ⟨x, rfl, hl, rfl⟩⟩
  · exact ⟨false, .inr ⟨h1, h2, rfl⟩⟩
theorem ElV.fld {H : Hp} {v : V} (h : ElV H v) : FldV H v := by
  rcases h.str with ⟨x, rfl, hl⟩ | h
  · exact .inl ⟨x, rfl, hl⟩
  · exact .inr h
theorem PenAt.nonil {H : Hp} {p c : Addr} (h : PenAt H p c) : ∃ o, H p = some o ∧ o ≠ .dK [] := by
  obtain ⟨ns, a, r, g, m, t, h1, h2, h3⟩ := h.ex
  exact ⟨_, h1, by intro z; cases z⟩
theorem ElV.step {p c : Addr} {H H' : Hp} {v : V} (h : ElV H v) (hp : PenAt H p c) (s : PenStep p c H H') : ElV H' v := by
  rcases h with h | h | h | h | ⟨q, n, rfl, e⟩ | ⟨q, rfl, e⟩
  · exact .inl h
  · exact .inr (.inl h)
  · exact .inr (.inr (.inl h))
  · exact .inr (.inr (.inr (.inl h)))
  · exact .inr (.inr (.inr (.inr (.inl ⟨q, n, rfl, s.at hp e rfl⟩))))
  · refine .inr (.inr (.inr (.inr (.inr ⟨q, rfl, s.atd e fun z => by
      obtain ⟨o, h1, h2⟩ := hp.nonil
      rw [z, h1] at e
      exact h2 (Option.some.inj e)⟩))))
def limB : V → Bool
  | .non => true
  | .int i => decide (0 ≤ i) && decide (i ≤ 20)
  | _ => false
def startB (rows : List Row) (v : V) : Prop := ∃ n, v = .str n ∧ n ∈ names rows ∧ underF rows n ≠ []
def ownB (rows : List Row) (y z : V) : Prop := ∃ o f, y = .str o ∧ z = .str f ∧ ownsF rows o f = true
structure Bad2 (rows : List Row) (wd : Str) (y : V) : Prop where
  lim : wd = "limit" → limB y = false
  fre : wd = "frees" → ∀ b, y ≠ .bl b
  sta : wd = "start" → ¬ startB rows y
structure Bad3 (H : Hp) (rows : List Row) (wd : Str) (y z : V) : Prop where
  gua : wd = "guard" → (∃ n, y = .str n ∧ n ∈ names rows) → ElV H z
  fld : wd ∈ fldsF → ElV H z ∧ ¬ ownB rows y z
def BadT (CG : Addr) (rows : List Row) (H : Hp) : List V → Prop
  | [x, y] => ElV H x ∧ ElV H y ∧ ∀ wd, x = .str wd → Bad2 rows wd y
  | [x, y, z] => ElV H x ∧ ElV H y ∧ (ElV H z ∨ ∃ g, GuAt CG H g z) ∧ ∀ wd, x = .str wd → Bad3 H rows wd y z
  | l => l.length ≤ 10
def BadC (CG : Addr) (rows : List Row) (H : Hp) (v : V) : Prop := v = .non ∨ (∃ x, v = .str x) ∨ (∃ a xs, v = .ref a ∧ H a = some (.lst xs)) ∨ ∃ t xs, v = .ref t ∧ H t = some (.tup xs) ∧ BadT CG rows H xs
theorem BadT.mono {CG : Addr} {rows : List Row} {H H' : Hp} (he : ∀ v, ElV H v → ElV H' v) (hg : ∀ g v, GuAt CG H g v → GuAt CG H' g v) : ∀ {xs : List V}, BadT CG rows H xs → BadT CG rows H' xs
  | [x, y], ⟨h1, h2, h3⟩ => ⟨he _ h1, he _ h2, h3⟩
  | [x, y, z], ⟨h1, h2, h3, h4⟩ => ⟨he _ h1, he _ h2, h3.imp (he _) (fun ⟨g, z⟩ => ⟨g, hg _ _ z⟩), fun wd e => ⟨fun a b => he _ ((h4 wd e).gua a b), fun a => ⟨he _ ((h4 wd e).fld a).1, ((h4 wd e).fld a).2⟩⟩⟩
  | [], h => h
  | [_], h => h
  | _ :: _ :: _ :: _ :: _, h => h
theorem BadC.same {CG : Addr} {rows : List Row} {H H' : Hp} {v : V} (h : BadC CG rows H v) (s : Same H H') : BadC CG rows H' v := by
  rcases h with h | h | ⟨a, xs, rfl, e⟩ | ⟨t, xs, rfl, e, b⟩
  · exact .inl h
  · exact .inr (.inl h)
  · exact .inr (.inr (.inl ⟨a, xs, rfl, s _ _ e⟩))
  · exact .inr (.inr (.inr ⟨t, xs, rfl, s _ _ e, b.mono (fun _ z => z.same s) (fun _ _ z => z.same s)⟩))
theorem BadC.step {CG p c : Addr} {rows : List Row} {H H' : Hp} {v : V} (h : BadC CG rows H v) (hp : PenAt H p c) (s : PenStep p c H H') : BadC CG rows H' v := by
  rcases h with h | h | ⟨a, xs, rfl, e⟩ | ⟨t, xs, rfl, e, b⟩
  · exact .inl h
  · exact .inr (.inl h)
  · exact .inr (.inr (.inl ⟨a, xs, rfl, s.at hp e rfl⟩))
  · exact .inr (.inr (.inr ⟨t, xs, rfl, s.at hp e rfl, b.mono (fun _ z => z.step hp s) (fun _ _ z => z.step hp s)⟩))
theorem BadC.ty {K : PySem.W.Frag} {CG : Addr} {rows : List Row} {H : Hp} {v : V} (h : BadC CG rows H v) : ∃ T, TyX K H v (.type T) ∧ NoSlotT "or" T := by
  rcases h with rfl | ⟨x, rfl⟩ | ⟨a, xs, rfl, e⟩ | ⟨t, xs, rfl, e, b⟩
  · exact ⟨_, .base .non, no_or_none⟩
  · exact ⟨_, .base (.str x), no_or_str⟩
  · exact ⟨_, .base (.lst e), no_or_list⟩
  · exact ⟨_, .base (.tup e), no_or_tuple⟩
def ChgAt (CG : Addr) (H : Hp) (c : Chg) (v : V) : Prop := ∃ t, v = .ref t ∧ match c with
  | .lim l => H t = some (.tup [.str "limit", limV l])
  | .fre b => H t = some (.tup [.str "frees", .bl b])
  | .sta n => H t = some (.tup [.str "start", .str n])
  | .gua n g => ∃ gv, H t = some (.tup [.str "guard", .str n, gv]) ∧ GuAt CG H g gv
  | .fld wd p => H t = some (.tup [.str wd, .str p.1, .str p.2])
theorem ChgAt.same {CG : Addr} {H H' : Hp} {c : Chg} {v : V} (h : ChgAt CG H c v) (s : Same H H') : ChgAt CG H' c v := by
  obtain ⟨t, rfl, h⟩ := h
  refine ⟨t, rfl, ?_⟩
  cases c with
  | gua n g =>
    obtain ⟨gv, e, h⟩ := h
    exact ⟨gv, s _ _ e, h.same s⟩
  | _ => exact s _ _ h
theorem ChgAt.step {CG p c : Addr} {H H' : Hp} {g : Chg} {v : V} (h : ChgAt CG H g v) (hp : PenAt H p c) (s : PenStep p c H H') : ChgAt CG H' g v := by
  obtain ⟨t, rfl, h⟩ := h
  refine ⟨t, rfl, ?_⟩
  cases g with
  | gua n g =>
    obtain ⟨gv, e, h⟩ := h
    exact ⟨gv, s.at hp e rfl, h.step hp s⟩
  | _ => exact s.at hp h rfl
theorem ChgAt.tup {CG : Addr} {H : Hp} {c : Chg} {v : V} (h : ChgAt CG H c v) : ∃ t xs, v = .ref t ∧ H t = some (.tup xs) := by
  obtain ⟨t, rfl, h⟩ := h
  cases c with
  | gua n g =>
    obtain ⟨gv, e, h⟩ := h
    exact ⟨t, _, rfl, e⟩
  | _ => exact ⟨t, _, rfl, h⟩
theorem ChgAt.ty {K : PySem.W.Frag} {CG : Addr} {H : Hp} {c : Chg} {v : V} (h : ChgAt CG H c v) : TyX K H v (.type "tuple") := by
  obtain ⟨t, xs, rfl, e⟩ := h.tup
  exact .base (.tup e)
def OffAt (CG : Addr) (rows : List Row) (H : Hp) : Option Chg → V → Prop
  | some c, v => ChgAt CG H c v ∧ ChgOk rows c
  | none, v => BadC CG rows H v
theorem OffAt.same {CG : Addr} {rows : List Row} {H H' : Hp} {o : Option Chg} {v : V} (h : OffAt CG rows H o v) (s : Same H H') : OffAt CG rows H' o v := by
  cases o with
  | none => exact BadC.same h s
  | some c => exact ⟨h.1.same s, h.2⟩
theorem OffAt.ty {K : PySem.W.Frag} {CG : Addr} {rows : List Row} {H : Hp} {o : Option Chg} {v : V} (h : OffAt CG rows H o v) : ∃ T, TyX K H v (.type T) ∧ NoSlotT "or" T := by
  cases o with
  | none => exact BadC.ty h
  | some c => exact ⟨_, h.1.ty, no_or_tuple⟩
theorem ElV.lim {H : Hp} (l : Option Nat) : ElV H (limV l) := by
  cases l with
  | none => exact .inr (.inl rfl)
  | some n => exact .inr (.inr (.inr (.inl ⟨_, rfl⟩)))
inductive Off2 (rows : List Row) : Option Chg → Str → V → Prop
  | bad {wd : Str} {y : V} (h : Bad2 rows wd y) : Off2 rows none wd y
  | lim (l : Option Nat) (h : limB (limV l) = true) : Off2 rows (some (.lim l)) "limit" (limV l)
  | fre (b : Bool) : Off2 rows (some (.fre b)) "frees" (.bl b)
  | sta (n : Str) (h : startB rows (.str n)) : Off2 rows (some (.sta n)) "start" (.str n)
inductive Off3 (CG : Addr) (rows : List Row) (H : Hp) : Option Chg → Str → V → V → Prop
  | bad {wd : Str} {y z : V} (h : Bad3 H rows wd y z) : Off3 CG rows H none wd y z
  | gua (n : Str) (g : G5) (z : V) (hn : n ∈ names rows) (hg : GuAt CG H g z) (h5 : G5Ok g) : Off3 CG rows H (some (.gua n g)) "guard" (.str n) z
  | fld (wd : Str) (p : Str × Str) (hw : wd ∈ fldsF) (hp : p ∈ ownPairs rows) : Off3 CG rows H (some (.fld wd p)) wd (.str p.1) (.str p.2)
inductive OffT (CG : Addr) (rows : List Row) (H : Hp) : Option Chg → List V → Prop
  | odd {xs : List V} (h2 : xs.length ≠ 2) (h3 : xs.length ≠ 3) : OffT CG rows H none xs
  | nw2 {x y : V} (h : AnyV H x) (hn : ∀ wd, x ≠ .str wd) : OffT CG rows H none [x, y]
  | nw3 {x y z : V} (h : AnyV H x) (hn : ∀ wd, x ≠ .str wd) : OffT CG rows H none [x, y, z]
  | two {o : Option Chg} {wd : Str} {y : V} (hy : ElV H y) (h : Off2 rows o wd y) : OffT CG rows H o [.str wd, y]
  | three {o : Option Chg} {wd : Str} {y z : V} (hy : ElV H y) (hz : ElV H z ∨ ∃ g, GuAt CG H g z) (h : Off3 CG rows H o wd y z) : OffT CG rows H o [.str wd, y, z]
theorem el_str {H : Hp} {x : Str} (h : x.length ≤ sizeLine) : ElV H (.str x) := .inl ⟨x, rfl, h⟩
theorem el_name {H : Hp} {rows : List Row} {n : Str} (hok : SchOk rows) (h : n ∈ names rows) : ElV H (.str n) := el_str (by
  have := kindName_len (hok.ok.kn h)
  rw [PySem.sizeLine_eq]
  omega)
theorem BadT.off {CG : Addr} {rows : List Row} {H : Hp} : ∀ {xs : List V}, BadT CG rows H xs → OffT CG rows H none xs
  | [], _ => .odd (by simp) (by simp)
  | [_], _ => .odd (by simp) (by simp)
  | [x, y], ⟨h1, h2, h3⟩ => by
    rcases h1.str with ⟨wd, rfl, _⟩ | ⟨ha, hn⟩
    · exact .two h2 (.bad (h3 wd rfl))
    · exact .nw2 ha hn
  | [x, y, z], ⟨h1, h2, h3, h4⟩ => by
    rcases h1.str with ⟨wd, rfl, _⟩ | ⟨ha, hn⟩
    · exact .three h2 h3 (.bad (h4 wd rfl))
    · exact .nw3 ha hn
  | _ :: _ :: _ :: _ :: _, _ => .odd (by simp) (by simp)
theorem OffAt.split {CG : Addr} {rows : List Row} {H : Hp} {o : Option Chg} {v : V} (hok : SchOk rows) (h : OffAt CG rows H o v) : (o = none ∧ (v = .non ∨ (∃ x, v = .str x) ∨ ∃ a xs, v = .ref a ∧ H a = some (.lst xs))) ∨ ∃ t xs, v = .ref t ∧ H t = some (.tup xs) ∧ OffT CG rows H o xs := by
  cases o with
  | none =>
    rcases h with h | h | h | ⟨t, xs, rfl, e, b⟩
    · exact .inl ⟨rfl, .inl h⟩
    · exact .inl ⟨rfl, .inr (.inl h)⟩
    · exact .inl ⟨rfl, .inr (.inr h)⟩
    · exact .inr ⟨t, xs, rfl, e, b.off⟩
  | some c =>
    obtain ⟨⟨t, rfl, h⟩, hc⟩ := h
    refine .inr ?_
    cases c with
    | lim l =>
      refine ⟨t, _, rfl, h, .two (.lim l) (.lim l ?_)⟩
      cases l with
      | none => rfl
      | some n =>
        have := hc n rfl
        simp only [limV, limB]
        have h1 : decide (0 ≤ ((n : Nat) : Int)) = true := decide_eq_true (by omega)
        have h2 : decide (((n : Nat) : Int) ≤ 20) = true := decide_eq_true (by omega)
        rw [h1, h2]
        rfl
    | fre b => exact ⟨t, _, rfl, h, .two (.inr (.inr (.inl ⟨b, rfl⟩))) (.fre b)⟩
    | sta n => exact ⟨t, _, rfl, h, .two (el_name hok hc.1) (.sta n ⟨n, rfl, hc.1, hc.2⟩)⟩
    | gua n g =>
      obtain ⟨gv, e, hg⟩ := h
      exact ⟨t, _, rfl, e, .three (el_name hok hc.1) (.inr ⟨g, hg⟩) (.gua n g gv hc.1 hg hc.2)⟩
    | fld wd p =>
      obtain ⟨_, l1, l2⟩ := owns_pair hok hc.2
      exact ⟨t, _, rfl, h, .three (el_str l1) (.inl (el_str l2)) (.fld wd p hc.1 hc.2)⟩
theorem r_iAE {K : PySem.W.Frag} {p : Addr} {xs : List V} {σ : St} {H H0 : Hp} {te : TE} {R : It → Hp → Prop} (hv : ∀ R : L2.VK, R (.ref p) H → te σ H R) (hS : SqA K H0 p xs) (s0 : Same H0 H)
    (h : ∀ (J : It) (G : Hp → Prop), Walk J xs.length G (YAt xs) → (∀ H', Same H0 H' → G H') → R J H) : iOr (iList K te) (iTup K te) σ H R := by
  rcases hS with hS | hS
  · exact .inl (hv _ ⟨p, rfl, ⟨xs, s0.seq hS⟩, h _ _ walk_list fun H' s => s.seq hS⟩)
  · exact .inr (hv _ ⟨p, rfl, ⟨xs, same_seqT s0 hS⟩, h _ _ walk_tup fun H' s => same_seqT s hS⟩)
section
variable (st g o n l : V) (f : Bool) (v : V)
end
def PartsD (K : PySem.W.Frag) (CG : Addr) (H : Hp) (rows : List Row) (w : Wk) (d : Addr) : Prop := ∃ ga oa na gxs oxs nxs, H d = some (.dK (pkvs (.str w.start) (.ref ga) (.ref oa) (.ref na) (limV w.lim) w.frees)) ∧ PartsIn K CG H rows w ga oa na gxs oxs nxs
theorem PartsD.same {K : PySem.W.Frag} {CG d : Addr} {H H' : Hp} {rows : List Row} {w : Wk} (h : PartsD K CG H rows w d) (s : Same H H') : PartsD K CG H' rows w d := by
  obtain ⟨ga, oa, na, gxs, oxs, nxs, e, pt⟩ := h
  exact ⟨ga, oa, na, gxs, oxs, nxs, s _ _ e, pt.same s⟩
def GotC (ad : Addr) (H : Hp) (E : XK) (i : Nat) : Prop := ∀ d H', Same H H' → H d = none → H' d = some (.xd [("at", .int (i : Nat))]) → E (.ref ad) (some d) H'
theorem GotC.same {ad : Addr} {H H' : Hp} {E : XK} {i : Nat} (h : GotC ad H E i) (s : Same H H') : GotC ad H' E i := fun d H2 s2 n e => h d H2 (s.trans s2) (s.free n) e
def runC : Nat → List (Option Chg) → Wk → Nat ⊕ Wk
  | _, [], w => .inr w
  | i, none :: _, _ => .inl i
  | i, some c :: l, w => runC (i + 1) l (chgF c w)
section
variable {CG t : Addr} {rows : List Row} {H : Hp} {x y z : V} {wd : Str}
theorem BadC.t0 {xs : List V} (e : H t = some (.tup xs)) (h : BadT CG rows H xs) : BadC CG rows H (.ref t) := .inr (.inr (.inr ⟨t, xs, rfl, e, h⟩))
theorem BadC.t2 (e : H t = some (.tup [.str wd, y])) (hw : wd.length ≤ 100) (hy : ElV H y) (hb : Bad2 rows wd y) : BadC CG rows H (.ref t) := .t0 e ⟨el_str (by rw [PySem.sizeLine_eq]; omega), hy, fun w' e => by
  cases e
  exact hb⟩
theorem BadC.t3 (e : H t = some (.tup [.str wd, y, z])) (hw : wd.length ≤ 100) (hy : ElV H y) (hz : ElV H z ∨ ∃ g, GuAt CG H g z) (hb : Bad3 H rows wd y z) : BadC CG rows H (.ref t) := .t0 e ⟨el_str (by rw [PySem.sizeLine_eq]; omega), hy, hz, fun w' e => by
  cases e
  exact hb⟩
theorem BadC.n2 (e : H t = some (.tup [x, y])) (hx : ElV H x) (hy : ElV H y) (hn : ∀ wd, x ≠ .str wd) : BadC CG rows H (.ref t) := .t0 e ⟨hx, hy, fun w' e => absurd e (hn w')⟩
theorem BadC.n3 (e : H t = some (.tup [x, y, z])) (hx : ElV H x) (hy : ElV H y) (hz : ElV H z ∨ ∃ g, GuAt CG H g z) (hn : ∀ wd, x ≠ .str wd) : BadC CG rows H (.ref t) := .t0 e ⟨hx, hy, hz, fun w' e => absurd e (hn w')⟩
theorem Bad2.no (h1 : wd ≠ "limit") (h2 : wd ≠ "frees") (h3 : wd ≠ "start") : Bad2 rows wd y := ⟨fun z => absurd z h1, fun z => absurd z h2, fun z => absurd z h3⟩
theorem Bad3.no (h1 : wd ≠ "guard") (h2 : wd ∉ fldsF) : Bad3 H rows wd y z := ⟨fun z => absurd z h1, fun z => absurd z h2⟩
theorem el_lst {q : Addr} {xs : List V} (e : H q = some (.lst xs)) : ElV H (.ref q) := .inr (.inr (.inr (.inr (.inl ⟨q, xs, rfl, e⟩))))
theorem el_dic {q : Addr} (e : H q = some (.dK [])) : ElV H (.ref q) := .inr (.inr (.inr (.inr (.inr ⟨q, rfl, e⟩))))
end
theorem ElV.putL {H : Hp} {v : V} {A : Addr} {ws xs : List V} (h : ElV H v) (e : H A = some (.lst ws)) : ElV (upd H A (.lst xs)) v := by
  rcases h with h | h | h | h | ⟨q, n, rfl, e1⟩ | ⟨q, rfl, e1⟩
  · exact .inl h
  · exact .inr (.inl h)
  · exact .inr (.inr (.inl h))
  · exact .inr (.inr (.inr (.inl h)))
  · by_cases hq : q = A
    · subst hq
      exact el_lst upd_same
    · exact el_lst ((upd_ne hq).trans e1)
  · exact el_dic ((upd_ne (ne_of e1 e (by intro z; cases z))).trans e1)
theorem GuAt.putL {CG : Addr} {H : Hp} {g : G5} {v : V} {A : Addr} {ws xs : List V} (h : GuAt CG H g v) (e : H A = some (.lst ws)) : GuAt CG (upd H A (.lst xs)) g v := by
  obtain ⟨a, dx, rfl, e1⟩ := h
  exact ⟨a, dx, rfl, (upd_ne (ne_of e1 e (by intro z; cases z))).trans e1⟩
theorem BadC.putL {CG : Addr} {rows : List Row} {H : Hp} {v : V} {A : Addr} {ws xs : List V} (h : BadC CG rows H v) (e : H A = some (.lst ws)) : BadC CG rows (upd H A (.lst xs)) v := by
  rcases h with h | h | ⟨a, ys, rfl, e1⟩ | ⟨t, ys, rfl, e1, b⟩
  · exact .inl h
  · exact .inr (.inl h)
  · by_cases hq : a = A
    · subst hq
      exact .inr (.inr (.inl ⟨_, _, rfl, upd_same⟩))
    · exact .inr (.inr (.inl ⟨_, _, rfl, (upd_ne hq).trans e1⟩))
  · exact .inr (.inr (.inr ⟨t, ys, rfl, (upd_ne (ne_of e1 e (by intro z; cases z))).trans e1, b.mono (fun _ z => z.putL e) (fun _ _ z => z.putL e)⟩))
theorem r_joinS {t : TS} {D : Ends} {σ : St} {H : Hp} (P : St → Hp → Prop) (rest : ∀ σ H, P σ H → D.nx σ H) (k : ∀ N : St → Hp → Prop, (∀ σ H, P σ H → N σ H) → t { D with nx := N } σ H) : t D σ H := k D.nx rest
structure Offs (CG : Addr) (rows : List Row) (H : Hp) (L : Addr) (i : Nat) : Prop where
  ex : ∃ (x0 x1 x2 v : V) (os : List (Option Chg)), H L = some (.lst [x0, x1, x2]) ∧ All2 (OffAt CG rows H) os [x0, x1, x2] ∧ (∀ w, runC 0 os w = .inl i) ∧ [x0, x1, x2][i]? = some v ∧ BadC CG rows H v
theorem OffAt.step {CG p c : Addr} {rows : List Row} {H H' : Hp} {o : Option Chg} {v : V} (h : OffAt CG rows H o v) (hp : PenAt H p c) (s : PenStep p c H H') : OffAt CG rows H' o v := by
  cases o with
  | none => exact BadC.step h hp s
  | some c => exact ⟨h.1.step hp s, h.2⟩
theorem ChgAt.putL {CG : Addr} {H : Hp} {c : Chg} {v : V} {A : Addr} {ws xs : List V} (h : ChgAt CG H c v) (e : H A = some (.lst ws)) : ChgAt CG (upd H A (.lst xs)) c v := by
  obtain ⟨t, rfl, h⟩ := h
  refine ⟨t, rfl, ?_⟩
  cases c with
  | gua n g =>
    obtain ⟨gv, e1, h⟩ := h
    exact ⟨gv, (upd_ne (ne_of e1 e (by intro z; cases z))).trans e1, h.putL e⟩
  | _ => exact (upd_ne (ne_of h e (by intro z; cases z))).trans h
theorem OffAt.putL {CG : Addr} {rows : List Row} {H : Hp} {o : Option Chg} {v : V} {A : Addr} {ws xs : List V} (h : OffAt CG rows H o v) (e : H A = some (.lst ws)) : OffAt CG rows (upd H A (.lst xs)) o v := by
  cases o with
  | none => exact BadC.putL h e
  | some c => exact ⟨h.1.putL e, h.2⟩
structure Ps (p c q : Addr) (H H' : Hp) : Prop where
  T : PenStep p c H (hid q H')
theorem hid_same {q : Addr} {H : Hp} : Same (hid q H) H := fun b o e => by
  unfold hid at e
  split at e
  · cases e
  · exact e
theorem Ps.pen {p c q : Addr} {H H' : Hp} (h : Ps p c q H H') : PenAt H' p c := h.T.pen.same hid_same
theorem Ps.new {p c q : Addr} {H H' : Hp} (hp : PenAt H p c) (s : Same H H') (n : H q = none) : Ps p c q H H' := by
  have s2 : Same H (hid q H') := fun b o e => hid_at (fun z => by
    rw [z, n] at e
    cases e) (s _ _ e)
  exact ⟨hp.step s2⟩
theorem PenAt.hid {p c q : Addr} {H : Hp} (h : PenAt H p c) (n1 : p ≠ q) (n2 : c ≠ q) : PenAt (hid q H) p c := by
  obtain ⟨ns, a, r, g, m, t, h1, h2, h3⟩ := h.ex
  exact ⟨ns, a, r, g, m, t, hid_at n1 h1, hid_at n2 h2, h3⟩
theorem Ps.ne {p c q : Addr} {H H' : Hp} (h : Ps p c q H H') : p ≠ q ∧ c ≠ q := by
  obtain ⟨o, e⟩ := h.T.pen.some_p
  obtain ⟨u, e'⟩ := h.T.pen.some_c
  have k : ∀ {b : Addr} {o : HO}, Wm.hid q H' b = some o → b ≠ q := fun {b o} e z => by
    unfold Wm.hid at e
    rw [if_pos z] at e
    cases e
  exact ⟨k e, k e'⟩
theorem hid_get2 {q b : Addr} {H : Hp} {o : HO} (e : Wm.hid q H b = some o) : b ≠ q ∧ H b = some o := by
  unfold Wm.hid at e
  split at e
  · cases e
  · rename_i n
    exact ⟨n, e⟩
theorem Ps.step {p c q : Addr} {H H1 H2 : Hp} (h : Ps p c q H H1) (t : PenStep p c H1 H2) : Ps p c q H H2 :=
  ⟨t.pen.hid h.ne.1 h.ne.2, fun b o n e => by
    obtain ⟨k1, k2⟩ := hid_get2 (h.T.keep b o n e)
    exact hid_at k1 (t.keep b o n k2)⟩
theorem Ps.same {p c q : Addr} {H H1 H2 : Hp} (h : Ps p c q H H1) (s : Same H1 H2) : Ps p c q H H2 := h.step (h.pen.step s)
theorem Ps.put {p c q : Addr} {H H1 : Hp} {o : HO} (h : Ps p c q H H1) : Ps p c q H (upd H1 q o) := by
  have hp : PenAt (upd H1 q o) p c := by
    obtain ⟨ns, a, r, g, m, t, h1, h2, h3⟩ := h.pen.ex
    exact ⟨ns, a, r, g, m, t, (upd_ne h.ne.1).trans h1, (upd_ne h.ne.2).trans h2, h3⟩
  exact ⟨hp.hid h.ne.1 h.ne.2, fun b u n e => by
    obtain ⟨k1, k2⟩ := hid_get2 (h.T.keep b u n e)
    exact hid_at k1 ((upd_ne k1).trans k2)⟩
theorem Offs.step {CG p c L : Addr} {rows : List Row} {H H' : Hp} {i : Nat} (h : Offs CG rows H L i) (hp : PenAt H p c) (t : PenStep p c H H') (n : L ≠ p) : Offs CG rows H' L i := by
  obtain ⟨x0, x1, x2, v, os, e, ho, hr, ha, hb⟩ := h.ex
  exact ⟨x0, x1, x2, v, os, t.atd e n, ho.mono fun _ _ z => z.step hp t, hr, ha, hb.step hp t⟩
theorem run_third {o0 o1 o2 : Option Chg} {i : Nat} (h : ∀ w, runC 0 [o0, o1, o2] w = .inl i) (hi : i < 2) (o : Option Chg) (w : Wk) : runC 0 [o0, o1, o] w = .inl i := by
  have h1 := h w
  cases o0 with
  | none =>
    cases h1
    rfl
  | some a =>
    cases o1 with
    | none =>
      cases h1
      rfl
    | some b =>
      cases o2 with
      | none =>
        cases h1
        omega
      | some c => cases h1
theorem Offs.put {CG L : Addr} {rows : List Row} {H : Hp} {i : Nat} {v : V} (h : Offs CG rows H L i) (hi : i < 2) (hv : BadC CG rows H v) : ∃ x0 x1 x2, H L = some (.lst [x0, x1, x2]) ∧ Offs CG rows (upd H L (.lst [x0, x1, v])) L i := by
  obtain ⟨x0, x1, x2, u, os, e, ho, hr, ha, hb⟩ := h.ex
  refine ⟨x0, x1, x2, e, ?_⟩
  match os, ho with
  | [o0, o1, o2], .cons a0 (.cons a1 (.cons a2 .nil)) =>
    refine ⟨x0, x1, v, u, [o0, o1, none], upd_same, .cons (a0.putL e) (.cons (a1.putL e) (.cons (BadC.putL hv e) .nil)), run_third hr hi none, ?_, hb.putL e⟩
    have h01 : i = 0 ∨ i = 1 := by omega
    rcases h01 with rfl | rfl
    · simpa using ha
    · simpa using ha
end Wm
namespace Wm
open PySem L2 PySem.Spec PySem.W PySem.SeqAt
open PyProof.Rows hiding St
section
open ClX
variable {X : Cx} {CX : CXT} {k : Nat} {C p g : Addr} {mc : Value} {sp : Sp} {o e : Expr} {es : List Expr} {m : Str} {pos apos : Pos} {ta : TE} {t : TA} {pl : Sem Bool}
end
section
variable {X : Cx}
end
def spOr2 (sp sp' : Sp) : Sp := fun vs H Q E => sp vs H Q E ∨ sp' vs H Q E
theorem FnOk.or {P : Program} {w : World} {K : PySem.W.Frag} {mg : Str → Option Value} {base : Heap} {CX : CXT} {k : Nat} {f : Addr} {fd : FuncData} {ps : List Str} {sp sp' : Sp} (F : FnOk P w K mg base CX k f fd ps sp) (F' : FnOk P w K mg base CX k f fd ps sp') : FnOk P w K mg base CX k f fd ps (spOr2 sp sp') :=
  ⟨fun vs H Q E h => h.elim (F.len vs H Q E) (F'.len vs H Q E), fun A ou s H as us vs Q E r e b v h => h.elim (F.run A ou s H as us vs Q E r e b v) (F'.run A ou s H as us vs Q E r e b v)⟩
structure RowLike (r s : Row) : Prop where
  nm : s.name = r.name
  bs : s.bases = r.bases
  ab : s.abs = r.abs
  ow : s.own.map (fun f => (f.1, f.2.2)) = r.own.map (fun f => (f.1, f.2.2))
  md : ∀ f, f ∈ s.own → f.2.1 ∈ MODESl
theorem like_names : ∀ {rows more : List Row}, All2 RowLike rows more → names more = names rows
  | _, _, .nil => rfl
  | _, _, .cons h t => by
    have := like_names t
    unfold names at this ⊢
    rw [List.map_cons, List.map_cons, this, h.nm]
theorem like_lines {rows more : List Row} (h : All2 RowLike rows more) : linesOf more = linesOf rows := by
  unfold linesOf
  have key : ∀ {rows more : List Row}, All2 RowLike rows more → ∀ acc, more.foldl lineStep acc = rows.foldl lineStep acc := by
    intro rows more h
    induction h with
    | nil => intro acc; rfl
    | cons a _ ih =>
      intro acc
      rw [List.foldl_cons, List.foldl_cons, ih]
      congr 1
      unfold lineStep
      rw [a.nm, a.bs]
  exact key h []
theorem like_line {rows more : List Row} (h : All2 RowLike rows more) (n : Str) : lineF more n = lineF rows n := by
  unfold lineF
  rw [like_lines h]
theorem like_own {rows more : List Row} (h : All2 RowLike rows more) (n : Str) : (ownOf more n).map (fun f => (f.1, f.2.2)) = (ownOf rows n).map (fun f => (f.1, f.2.2)) := by
  unfold ownOf
  induction h with
  | nil => rfl
  | @cons r s _ _ a t ih =>
    by_cases e : r.name = n
    · rw [List.find?_cons_of_pos (by rw [a.nm]; simpa using e), List.find?_cons_of_pos (by simpa using e)]
      exact a.ow
    · rw [List.find?_cons_of_neg (by rw [a.nm]; simpa using e), List.find?_cons_of_neg (by simpa using e)]
      exact ih
theorem like_fields {rows more : List Row} (h : All2 RowLike rows more) (n : Str) : (fieldsF more n).map (·.1) = (fieldsF rows n).map (·.1) := by
  unfold fieldsF
  rw [like_line h, List.map_flatMap, List.map_flatMap]
  congr 1
  funext o
  rw [List.map_map, List.map_map]
  have := congrArg (List.map (·.1)) (like_own h o)
  rw [List.map_map, List.map_map] at this
  exact this
theorem like_take {rows more : List Row} (h : All2 RowLike rows more) : ∀ k, All2 RowLike (rows.take k) (more.take k) := by
  induction h with
  | nil => intro k; cases k <;> exact .nil
  | cons a _ ih =>
    intro k
    cases k with
    | zero => exact .nil
    | succ k => exact .cons a (ih k)
theorem sch_like {rows more : List Row} (h : All2 RowLike rows more) (ok : SchOk rows) : SchOk more where
  ok := fun k s e => by
    obtain ⟨r, hr, l⟩ := h.right e
    have o := ok.ok k r hr
    have ht := like_take h k
    have hs : All2 RowLike (rows.take k ++ [r]) (more.take k ++ [s]) := all2_app ht (.cons l .nil)
    have hf := like_fields hs r.name
    refine { nm := l.nm ▸ o.nm, fresh := ?_, bsub := ?_, bnd := l.bs ▸ o.bnd, blen := l.bs ▸ o.blen, own := fun f hf => ?_, fnd := ?_, flen := ?_ }
    · rw [l.nm, like_names ht]
      exact o.fresh
    · rw [l.bs, like_names ht]
      exact o.bsub
    · have hm : (f.1, f.2.2) ∈ r.own.map (fun f => (f.1, f.2.2)) := l.ow ▸ List.mem_map_of_mem hf
      obtain ⟨g, hg, eg⟩ := List.mem_map.mp hm
      obtain ⟨h1, h2, h3⟩ := o.own g hg
      have e1 : g.1 = f.1 := (Prod.mk.inj eg).1
      have e2 : g.2.2 = f.2.2 := (Prod.mk.inj eg).2
      rw [like_names h, ← e1, ← e2]
      exact ⟨h1, l.md f hf, h3⟩
    · rw [l.nm, hf]
      exact o.fnd
    · have := congrArg List.length hf
      rw [List.length_map, List.length_map] at this
      rw [l.nm, this]
      exact o.flen
  pos := h.len ▸ ok.pos
  few := h.len ▸ ok.few
  conc := by
    obtain ⟨r, hr, ha⟩ := ok.conc
    obtain ⟨k, hk⟩ := List.mem_iff_getElem?.mp hr
    obtain ⟨s, hs, l⟩ := h.left hk
    exact ⟨s, List.mem_of_getElem? hs, l.ab.trans ha⟩
end Wm
namespace Wm
open PySem L2 PySem.Spec
open PyProof.Rows hiding St
section
variable {prog : Program} {w : World} {A : Around} {E : Value → Shared → Prop} {s : Shared} {K : PySem.W.Frag} {x C f : Addr} {ox : Obj} {od : Option Obj}
theorem pyStr_own {Q : Value → Shared → Prop} (hu : A.units < cLine) (X : K.In s.heap) (I : PySem.W.InstAt s.heap x ox C od) (hs : PySem.W.findIn K (.ref C) "__str__" = some (some (.ref f))) (hf : PySem.W.isFn K (.ref f) = true)
    (h : wpAny (model prog w) A (call (.ref f) [.ref x]) (PySem.W.StrBack Q) E s) : wpAny (model prog w) A (pyStrObj (.ref x)) Q E s := by
  unfold pyStrObj
  refine wpAny_bind (m := cRoomFor _ _) (wpAny_cRoomFor hu ?_)
  refine wpAny_bind (m := callSpecial? (.ref x) "__str__") (PySem.W.special_fn X I hs (beq_iff_eq.mp hf) (wpAny_mono h (fun r s' hr => ?_) fun _ _ y => y))
  cases r <;> first | exact hr.elim | exact wpAny_bind (wpAny_isInstance (typeIs_str _ _ _) isSubtype_str_str (wpAny_pure hr))
theorem wpAny_FormattedValue_str {value : Expr} {env : Env} {pos : Pos} {Q : Value → Shared → Prop}
    (h : wpAny (model prog w) A (eval value env) (fun v s₁ => (∃ a, v = .ref a) ∧ wpAny (model prog w) A (pyStrObj v) (fun r s₂ => wpAny (model prog w) A (formatField r Str.empty) Q E s₂) E s₁) E s) :
    wpAny (model prog w) A (eval (.FormattedValue value 115 none pos) env) Q E s := by
  rw [arm_eval_FormattedValue]
  refine wpAny_bind (wpAny_mono h (fun v s₁ h₁ => ?_) fun _ _ x => x)
  obtain ⟨⟨a, rfl⟩, h₁⟩ := h₁
  refine wpAny_bind (wpAny_standAt ?_)
  show wpAny _ _ (do let v' ← holding [.ref a] (pyStrObj (.ref a)); formatField v' Str.empty) Q E s₁
  exact wpAny_bind (wpAny_holding h₁)
end
def strBk2 (Q : L2.VK) : L2.VK := fun v H' => (∃ y : Str, v = .str y ∧ y.length ≤ sizeLine) ∧ Q v H'
def fmtOEnd (C : Addr) (sp : Sp) (E : XK) (Q : L2.VK) : L2.VK := fun x H1 => ∃ a dx fs, x = .ref a ∧ H1 a = some (.ins C dx fs) ∧ sp [.ref a] H1 (strBk2 Q) E
def tFmtO (te : TE) (C : Addr) (sp : Sp) (E : XK) : TE := fun σ H Q => te σ H (fmtOEnd C sp E Q)
theorem pe_fmtO {X : Cx} {CX : CXT} {C f : Addr} {fd : FuncData} {ps : List Str} {k : Nat} {sp : Sp} {E : XK} {e : Expr} {te : TE} {pos : Pos} (he : PE X e te) (F : FnOk X.prog X.w X.K X.mg X.base CX k f fd ps sp) (hr : Room k X.A) (hm : Meth X.K C "__str__" f) (hb : Binds X.K fd ps []) (hx : Passes CX X E) : PE X (.FormattedValue e 115 none pos) (tFmtO te C sp E) := by
  refine ⟨fun pins s σ H Q I h => ?_⟩
  refine wpAny_FormattedValue_str (thn (he.run pins s σ H _ I h) fun v s1 hv => ?_)
  obtain ⟨x, H1, I1, r1, a, dx, fs, rfl, ha, hq⟩ := hv
  obtain rfl : v = .ref a := r1
  refine ⟨⟨a, rfl⟩, ?_⟩
  obtain ⟨mA, J, _⟩ := ins_get I1.hok ha
  obtain ⟨od, J, _⟩ := J.look
  refine pyStr_own hr.units0 I1.kIn J hm.at_ hm.fn ?_
  refine wpAny_mono (run_fn F hr hb .nil hx I1 (vs := [.ref a]) (us := [.ref a]) (.cons rfl .nil) hq) (fun r s' z => ?_) fun _ _ e => e
  obtain ⟨v2, H', I', rv, ⟨y, rfl, hz⟩, q⟩ := z
  obtain ⟨t, rfl⟩ := rv
  exact wpAny_formatField_str ⟨.str y, H', I', ⟨t, rfl⟩, q⟩ ⟨.str y, H', I'.tok _, ⟨_, rfl⟩, q⟩ hz
section
variable {σ : St} {H : Hp} {Q : L2.VK}
theorem r_fmtOe {te : TE} {C : Addr} {sp : Sp} {E : XK} (h : te σ H (fmtOEnd C sp E Q)) : tFmtO te C sp E σ H Q := h
theorem r_fmtO {a C dx : Addr} {fs : List (Str × V)} {sp : Sp} {E : XK} (h : H a = some (.ins C dx fs)) (q : sp [.ref a] H (strBk2 Q) E) : fmtOEnd C sp E Q (.ref a) H := ⟨a, dx, fs, rfl, h, q⟩
theorem r_strBk2 {y : Str} (hz : y.length ≤ sizeLine) (q : Q (.str y) H) : strBk2 Q (.str y) H := ⟨⟨y, rfl, hz⟩, q⟩
end
def strT (m b a k e : Str) : Str :=
  if m = "none" then (if k = "none" then "none" else Txt.join ", " [Str.empty ++ k ++ " " ++ e])
  else (if k = "none" then Txt.join ", " [Str.empty ++ m ++ " " ++ b ++ " " ++ a] else Txt.join ", " [Str.empty ++ m ++ " " ++ b ++ " " ++ a, Str.empty ++ k ++ " " ++ e])
def strG (g : G5) : Str := strT g.m g.b g.a g.k g.e
def spStr (C : Addr) : Sp := fun vs H Q _ => ∃ (a dx : Addr) (m t b k e : Str), vs = [.ref a] ∧ H a = some (.ins C dx (gfs [m, t, b, k, e])) ∧ (m.length ≤ 10 ∧ t.length ≤ 10 ∧ b.length ≤ 10 ∧ k.length ≤ 10 ∧ e.length ≤ 10) ∧ ∀ H', Same H H' → Q (.str (strT m b t k e)) H'
def limL : Option Nat → List Str
  | none => []
  | some n => [Str.empty ++ "limit " ++ toString (n : Int)]
def lvL (b : Bool) : List Str := if b = true then [] else ["leaves"]
def guardL (x : Str × G5) : Str := Str.empty ++ "guard " ++ x.1 ++ " " ++ strG x.2
def pairL (wd : Str) (p : Str × Str) : Str := Str.empty ++ wd ++ " " ++ p.1 ++ " " ++ p.2
def linesW (w : Wk) : List Str := limL w.lim ++ lvL w.frees ++ w.gs.map guardL ++ w.out.map (pairL "out") ++ w.anew.map (pairL "anew")
def walkL (w : Wk) : Str := Str.empty ++ "walk " ++ w.start
def textW (w : Wk) : Str := Txt.join "\n" (walkL w :: linesW w)
theorem len10 {g : G5} (h : G5Ok g) : g.m.length ≤ 10 ∧ g.a.length ≤ 10 ∧ g.b.length ≤ 10 ∧ g.k.length ≤ 10 ∧ g.e.length ≤ 10 := by
  have f : ∀ (l : List Str), (l.all fun x => decide (x.length ≤ 10)) = true → ∀ x, x ∈ l → x.length ≤ 10 := fun l h x hx => by simpa using List.all_eq_true.mp h x hx
  exact ⟨f MARKSl (by decide +kernel) _ h.m, f ACTSl (by decide +kernel) _ h.a, f BYl (by decide +kernel) _ h.b, f KEEPSl (by decide +kernel) _ h.k, f BYl (by decide +kernel) _ h.e⟩
theorem strT_len {m b a k e : Str} (h : m.length ≤ 10 ∧ a.length ≤ 10 ∧ b.length ≤ 10 ∧ k.length ≤ 10 ∧ e.length ≤ 10) : (strT m b a k e).length ≤ 60 := by
  obtain ⟨h1, h2, h3, h4, h5⟩ := h
  have e1 : (" " : Str).length = 1 := rfl
  have e0 : Str.empty.length = 0 := rfl
  have e2 : (", " : Str).length = 2 := rfl
  have e4 : ("none" : Str).length = 4 := rfl
  unfold strT
  split
  · split
    · rw [e4]; decide
    · show (Str.empty ++ k ++ " " ++ e).length ≤ 60
      simp only [Str.length_append, e0, e1]
      omega
  · split
    · show (Str.empty ++ m ++ " " ++ b ++ " " ++ a).length ≤ 60
      simp only [Str.length_append, e0, e1]
      omega
    · have ej : ∀ x y : Str, Txt.join ", " [x, y] = x ++ ", " ++ y := fun x y => rfl
      rw [ej]
      simp only [Str.length_append, e0, e1, e2]
      omega
def spWText (K : PySem.W.Frag) (CG : Addr) : Sp := fun vs H Q _ => ∃ (d : Addr) (rows : List Row) (w : Wk), vs = [.ref d] ∧ PartsD K CG H rows w d ∧ SchOk rows ∧ WkOk rows w ∧ ∀ H', Same H H' → Q (.str (textW w)) H'
def spWStr (C D CG CW : Addr) : Sp := fun vs H Q _ => ∃ (a S : Addr) (rows : List Row) (w : Wk), vs = [.ref a] ∧ WkrAt CW CG H S w a ∧ SchAt C D H rows S ∧ SchOk rows ∧ WkOk rows w ∧ ∀ H', Same H H' → Q (.str (textW w)) H'
def LChgAt (H : Hp) (c : Chg) (v : V) : Prop := ∃ t, v = .ref t ∧ match c with
  | .lim l => H t = some (.tup [.str "limit", limV l])
  | .fre b => H t = some (.tup [.str "frees", .bl b])
  | .sta n => H t = some (.tup [.str "start", .str n])
  | .gua n g => ∃ gv, H t = some (.tup [.str "guard", .str n, gv]) ∧ G5At H g gv
  | .fld wd p => H t = some (.tup [.str wd, .str p.1, .str p.2])
theorem LChgAt.same {H H' : Hp} {c : Chg} {v : V} (h : LChgAt H c v) (s : Same H H') : LChgAt H' c v := by
  obtain ⟨t, rfl, h⟩ := h
  refine ⟨t, rfl, ?_⟩
  cases c with
  | gua n g =>
    obtain ⟨gv, e, q, rfl, h⟩ := h
    exact ⟨_, s _ _ e, q, rfl, s _ _ h⟩
  | _ => exact s _ _ h
theorem LChgAt.step {p c : Addr} {H H' : Hp} {g : Chg} {v : V} (h : LChgAt H g v) (hp : PenAt H p c) (s : PenStep p c H H') : LChgAt H' g v := by
  obtain ⟨t, rfl, h⟩ := h
  refine ⟨t, rfl, ?_⟩
  cases g with
  | gua n g =>
    obtain ⟨gv, e, q, rfl, h⟩ := h
    exact ⟨_, s.at hp e rfl, q, rfl, s.at hp h rfl⟩
  | _ => exact s.at hp h rfl
def putG (gs : List (Str × G5)) (n : Str) (g : G5) : List (Str × G5) := if n ∈ gs.map (·.1) then gs.map fun x => if x.1 = n then (n, g) else x else gs ++ [(n, g)]
structure EqW (w u : Wk) : Prop where
  st : w.start = u.start
  gs : ∀ n, (w.gs.find? fun x => x.1 == n) = u.gs.find? fun x => x.1 == n
  out : ∀ p, p ∈ w.out ↔ p ∈ u.out
  anew : ∀ p, p ∈ w.anew ↔ p ∈ u.anew
  lim : w.lim = u.lim
  frees : w.frees = u.frees
theorem EqW.refl (w : Wk) : EqW w w := ⟨rfl, fun _ => rfl, fun _ => .rfl, fun _ => .rfl, rfl, rfl⟩
theorem EqW.symm {w u : Wk} (h : EqW w u) : EqW u w := ⟨h.st.symm, fun n => (h.gs n).symm, fun p => (h.out p).symm, fun p => (h.anew p).symm, h.lim.symm, h.frees.symm⟩
theorem EqW.trans {w u z : Wk} (h : EqW w u) (k : EqW u z) : EqW w z := ⟨h.st.trans k.st, fun n => (h.gs n).trans (k.gs n), fun p => (h.out p).trans (k.out p), fun p => (h.anew p).trans (k.anew p), h.lim.trans k.lim, h.frees.trans k.frees⟩
theorem EqW.guard {rows : List Row} {w u : Wk} (h : EqW w u) (n : Str) : guardOf5 rows w n = guardOf5 rows u n := by
  unfold guardOf5
  rw [show (fun o => w.gs.find? fun x => x.1 == o) = (fun o => u.gs.find? fun x => x.1 == o) from funext h.gs]
theorem EqW.sh {w u : Wk} (h : EqW w u) : sh1 w = sh1 u := by
  funext f
  unfold sh1
  simp only [h.out, h.anew]
def rStrSS : List V → Hp → L2.VK → Prop := fun xs H Q => ∃ a, xs = [.str a] ∧ Q (.str a) H
theorem r_strSS {H : Hp} {Q : L2.VK} {a : Str} (q : Q (.str a) H) : rStrSS [.str a] H Q := ⟨a, rfl, q⟩
theorem all2_sf {α : Type} {f : α → Str} : ∀ {l : List α} {ys : List V}, All2 (fun a y => y = V.str (f a)) l ys → ys = (l.map f).map V.str
  | _, _, .nil => rfl
  | _, _, .cons h t => by rw [List.map_cons, List.map_cons, ← h, ← all2_sf t]
theorem own_names {rows : List Row} {p : Str × Str} (hok : SchOk rows) (h : p ∈ ownPairs rows) : p.1.length ≤ 8 ∧ p.2.length ≤ 8 := by
  refine ⟨kindName_len (hok.ok.kn (own_pairs_mem h)), ?_⟩
  unfold ownPairs at h
  obtain ⟨r, hr, hx⟩ := List.mem_flatMap.mp h
  obtain ⟨f, hf, rfl⟩ := List.mem_map.mp hx
  exact fieldName_len ((hok.sm hr).form.2.2 f hf).1
theorem limS_len {n : Nat} (h : n ≤ 20) : (toString (n : Int) : Str).length ≤ 2 := by
  have f : ((List.range 21).all fun n => decide ((toString (n : Int) : Str).length ≤ 2)) = true := by decide +kernel
  simpa using List.all_eq_true.mp f n (List.mem_range.mpr (by omega))
theorem log_small {n : Nat} (h : n ≤ 20) : (n : Int).natAbs.log2 < 1920 := by
  have f : ((List.range 21).all fun n => decide ((n : Int).natAbs.log2 < 1920)) = true := by decide +kernel
  simpa using List.all_eq_true.mp f n (List.mem_range.mpr (by omega))
theorem r_fmtI {H : Hp} {Q : L2.VK} {n : Nat} (h : n ≤ 20) (q : Q (.str (toString (n : Int))) H) : fmtEnd Q (limV (some n)) H := .inr ⟨(n : Int), rfl, log_small h, q⟩
theorem sumS_le {k : Nat} : ∀ {l : List Str}, (∀ x, x ∈ l → x.length ≤ k) → (l.map (·.length)).sum ≤ l.length * k
  | [], _ => by simp
  | x :: l, h => by
    have h1 := h x (by simp)
    have h2 := sumS_le (l := l) (fun y hy => h y (by simp [hy]))
    simp only [List.map_cons, List.sum_cons, List.length_cons, Nat.add_mul, Nat.one_mul]
    omega
theorem line_small {rows : List Row} {w : Wk} (hok : SchOk rows) (hw : WkOk rows w) : ∀ x, x ∈ walkL w :: linesW w → x.length ≤ 100 := by
  have e1 : (" " : Str).length = 1 := rfl
  have e0 : Str.empty.length = 0 := rfl
  have hp := hw.pok hok
  intro x hx
  rw [List.mem_cons] at hx
  rcases hx with rfl | hx
  · have := kindName_len (hok.ok.kn hw.st)
    unfold walkL
    simp only [Str.length_append, e0, show ("walk " : Str).length = 5 from rfl]
    omega
  · unfold linesW at hx
    simp only [List.mem_append] at hx
    rcases hx with (((hx | hx) | hx) | hx) | hx
    · cases hl : w.lim with
      | none => rw [hl] at hx; cases hx
      | some n =>
        rw [hl] at hx
        have hn := limS_len (hw.lim n hl)
        rw [show x = Str.empty ++ "limit " ++ toString (n : Int) from List.mem_singleton.mp hx]
        simp only [Str.length_append, e0, show ("limit " : Str).length = 6 from rfl]
        omega
    · unfold lvL at hx
      split at hx
      · cases hx
      · rw [show x = "leaves" from List.mem_singleton.mp hx]
        decide +kernel
    · obtain ⟨y, hy, rfl⟩ := List.mem_map.mp hx
      have l8 := kindName_len (hok.ok.kn (hp.gn y hy))
      have l10 := len10 (hw.g5 y hy)
      have l60 := strT_len (b := y.2.b) ⟨l10.1, l10.2.1, l10.2.2.1, l10.2.2.2.1, l10.2.2.2.2⟩
      unfold guardL strG
      simp only [Str.length_append, e0, e1, show ("guard " : Str).length = 6 from rfl]
      have e : strT y.2.m y.2.b y.2.a y.2.k y.2.e = strT y.2.m y.2.b y.2.a y.2.k y.2.e := rfl
      omega
    · obtain ⟨y, hy, rfl⟩ := List.mem_map.mp hx
      obtain ⟨l8, l9⟩ := own_names hok (hp.on y hy)
      unfold pairL
      simp only [Str.length_append, e0, e1, show ("out" : Str).length = 3 from rfl]
      omega
    · obtain ⟨y, hy, rfl⟩ := List.mem_map.mp hx
      obtain ⟨l8, l9⟩ := own_names hok (hp.nn y hy)
      unfold pairL
      simp only [Str.length_append, e0, e1, show ("anew" : Str).length = 4 from rfl]
      omega
theorem lines_len {rows : List Row} {w : Wk} (hok : SchOk rows) (hw : WkOk rows w) : (walkL w :: linesW w).length ≤ 2009 := by
  obtain ⟨lg, lo, ln⟩ := (hw.pok hok).lens hok
  unfold linesW
  simp only [List.length_cons, List.length_append, List.length_map]
  have h1 : (limL w.lim).length ≤ 1 := by cases w.lim <;> simp [limL]
  have h2 : (lvL w.frees).length ≤ 1 := by cases w.frees <;> simp [lvL]
  omega
theorem lines_small {rows : List Row} {w : Wk} (hok : SchOk rows) (hw : WkOk rows w) : ((walkL w :: linesW w).map (·.length)).sum + (walkL w :: linesW w).length * ("\n" : Str).length ≤ 16777216 := by
  have h1 := sumS_le (line_small hok hw)
  have h2 := lines_len hok hw
  rw [show ("\n" : Str).length = 1 from rfl]
  omega
theorem ea (a : Str) : Str.empty ++ a = a := Str.empty_append a
theorem LChgAt.tx {H H' : Hp} {c : Chg} {v : V} (h : LChgAt H c v) (s : Tx H H') : LChgAt H' c v := by
  obtain ⟨t, rfl, h⟩ := h
  refine ⟨t, rfl, ?_⟩
  cases c with
  | gua n g =>
    obtain ⟨gv, e, q, rfl, h⟩ := h
    exact ⟨_, s _ _ e, q, rfl, s _ _ h⟩
  | _ => exact s _ _ h
theorem ChgAt.hid {CG D : Addr} {H : Hp} {xs : List V} {c : Chg} {v : V} (h : ChgAt CG H c v) (e : H D = some (.lst xs)) : ChgAt CG (hid D H) c v := by
  obtain ⟨t, rfl, h⟩ := h
  have nt : ∀ {b : Addr} {ys : List V}, H b = some (.tup ys) → b ≠ D := fun eb z => by rw [z, e] at eb; cases eb
  refine ⟨t, rfl, ?_⟩
  cases c with
  | gua n g =>
    obtain ⟨gv, et, a, dx, rfl, h⟩ := h
    exact ⟨_, hid_at (nt et) et, a, dx, rfl, hid_at (fun z => by rw [z, e] at h; cases h) h⟩
  | lim l => exact hid_at (nt h) h
  | fre b => exact hid_at (nt h) h
  | sta n => exact hid_at (nt h) h
  | fld wd p => exact hid_at (nt h) h
end Wm
namespace Wm
open PySem L2 PySem.Spec
open PyProof.Rows hiding St
end Wm
namespace Wm
open PySem L2
def sp1 : Str := " "
end Wm
namespace Wm
open PySem L2
end Wm
namespace Wm
open PySem L2
end Wm
namespace Wm
open PySem L2
def PartsAt (H : Hp) (L : Addr) (l : List Str) : Prop := ∃ ys, H L = some (.lst ys) ∧ All2 (fun (p : Str) (v : V) => ∃ a, v = V.ref a ∧ H a = some (.lst ((Txt.split p sp1).map V.str))) l ys
theorem PartsAt.same {H H' : Hp} {L : Addr} {l : List Str} (h : PartsAt H L l) (s : Same H H') : PartsAt H' L l := by
  obtain ⟨ys, e, h⟩ := h
  exact ⟨ys, s _ _ e, h.mono fun p v ⟨a, e1, e2⟩ => ⟨a, e1, s _ _ e2⟩⟩
end Wm
namespace Wm
open PySem L2 PySem.Spec PySem.W PySem.SeqAt
open PyProof.Rows hiding St
structure PrtIn (CG : Addr) (H : Hp) (w : Wk) (d ga oa na : Addr) (gxs oxs nxs : List V) : Prop where
  at_ : H d = some (.dK (pkvs (.str w.start) (.ref ga) (.ref oa) (.ref na) (limV w.lim) w.frees))
  gat : H ga = some (.lst gxs)
  g : All2 (GRowAt CG H) w.gs gxs
  oat : H oa = some (.lst oxs)
  o : All2 (PairAt H) w.out oxs
  nat : H na = some (.lst nxs)
  n : All2 (PairAt H) w.anew nxs
structure PrtFr (H0 : Hp) (d ga oa na : Addr) : Prop where
  fd : H0 d = none
  fg : H0 ga = none
  fo : H0 oa = none
  fn : H0 na = none
  go : ga ≠ oa
  gn : ga ≠ na
  on : oa ≠ na
theorem PrtIn.same {CG : Addr} {H H' : Hp} {w : Wk} {d ga oa na : Addr} {gxs oxs nxs : List V} (i : PrtIn CG H w d ga oa na gxs oxs nxs) (s : Same H H') : PrtIn CG H' w d ga oa na gxs oxs nxs :=
  ⟨s _ _ i.at_, s _ _ i.gat, i.g.mono fun _ _ z => z.same s, s _ _ i.oat, all2_pairs i.o (tx_same s), s _ _ i.nat, all2_pairs i.n (tx_same s)⟩
theorem GRowAt.putA {CG : Addr} {H : Hp} {x : Str × G5} {v : V} {A : Addr} {o u : HO} (h : GRowAt CG H x v) (e : H A = some o) (nt : ∀ xs, o ≠ .tup xs) (ni : ∀ C dx fs, o ≠ .ins C dx fs) : GRowAt CG (upd H A u) x v := by
  obtain ⟨t, gv, rfl, e1, a, dx, rfl, e2⟩ := h
  exact ⟨t, _, rfl, (upd_ne (ne_of e1 e fun z => nt _ z.symm)).trans e1, a, dx, rfl, (upd_ne (ne_of e2 e fun z => ni _ _ _ z.symm)).trans e2⟩
theorem PairAt.putA {H : Hp} {x : Str × Str} {v : V} {A : Addr} {o u : HO} (h : PairAt H x v) (e : H A = some o) (nt : ∀ xs, o ≠ .tup xs) : PairAt (upd H A u) x v := by
  obtain ⟨t, rfl, e1⟩ := h
  exact ⟨t, rfl, (upd_ne (ne_of e1 e fun z => nt _ z.symm)).trans e1⟩
section
variable {CG : Addr} {H H0 : Hp} {w : Wk} {d ga oa na : Addr} {gxs oxs nxs : List V}
theorem PrtIn.putO (i : PrtIn CG H w d ga oa na gxs oxs nxs) (f : PrtFr H0 d ga oa na) {x : Str × Str} {v : V} (hv : PairAt H x v) :
    PrtIn CG (upd H oa (.lst (oxs ++ [v]))) { w with out := w.out ++ [x] } d ga oa na gxs (oxs ++ [v]) nxs where
  at_ := (upd_ne (ne_of i.at_ i.oat (by intro z; cases z))).trans i.at_
  gat := (upd_ne f.go).trans i.gat
  g := i.g.mono fun _ _ z => z.putA i.oat (by intro _ z; cases z) (by intro _ _ _ z; cases z)
  oat := upd_same
  o := All2.snoc (R := PairAt (upd H oa (.lst (oxs ++ [v])))) (hv.putA i.oat (by intro _ z; cases z)) (i.o.mono fun _ _ z => z.putA i.oat (by intro _ z; cases z))
  nat := (upd_ne (Ne.symm f.on)).trans i.nat
  n := i.n.mono fun _ _ z => z.putA i.oat (by intro _ z; cases z)
theorem PrtIn.putG (i : PrtIn CG H w d ga oa na gxs oxs nxs) (f : PrtFr H0 d ga oa na) {x : Str × G5} {v : V} (hv : GRowAt CG H x v) :
    PrtIn CG (upd H ga (.lst (gxs ++ [v]))) { w with gs := w.gs ++ [x] } d ga oa na (gxs ++ [v]) oxs nxs where
  at_ := (upd_ne (ne_of i.at_ i.gat (by intro z; cases z))).trans i.at_
  gat := upd_same
  g := All2.snoc (R := GRowAt CG (upd H ga (.lst (gxs ++ [v])))) (hv.putA i.gat (by intro _ z; cases z) (by intro _ _ _ z; cases z)) (i.g.mono fun _ _ z => z.putA i.gat (by intro _ z; cases z) (by intro _ _ _ z; cases z))
  oat := (upd_ne (Ne.symm f.go)).trans i.oat
  o := i.o.mono fun _ _ z => z.putA i.gat (by intro _ z; cases z)
  nat := (upd_ne (Ne.symm f.gn)).trans i.nat
  n := i.n.mono fun _ _ z => z.putA i.gat (by intro _ z; cases z)
end
inductive It where
  | lim (n : Nat)
  | lv
  | gu (x : Str × G5)
  | out (p : Str × Str)
  | anew (p : Str × Str)
def appIt (w : Wk) : It → Wk
  | .lim n => { w with lim := some n }
  | .lv => { w with frees := false }
  | .gu x => { w with gs := w.gs ++ [x] }
  | .out p => { w with out := w.out ++ [p] }
  | .anew p => { w with anew := w.anew ++ [p] }
theorem own_form {rows : List Row} {p : Str × Str} (hok : SchOk rows) (h : p ∈ ownPairs rows) : kindName p.1 = true ∧ fieldName p.2 = true := by
  refine ⟨hok.ok.kn (own_pairs_mem h), ?_⟩
  unfold ownPairs at h
  obtain ⟨r, hr, hx⟩ := List.mem_flatMap.mp h
  obtain ⟨f, hf, rfl⟩ := List.mem_map.mp hx
  exact ((hok.sm hr).form.2.2 f hf).1
def It.gu? : It → Option (Str × G5) | .gu x => some x | _ => none
def It.out? : It → Option (Str × Str) | .out x => some x | _ => none
def It.anew? : It → Option (Str × Str) | .anew x => some x | _ => none
def It.lim? : It → Option Nat | .lim x => some x | _ => none
def It.lv? : It → Option Unit | .lv => some () | _ => none
structure ItInv (s : Str) (done : List It) (w : Wk) : Prop where
  st : w.start = s
  gs : w.gs = done.filterMap It.gu?
  out : w.out = done.filterMap It.out?
  an : w.anew = done.filterMap It.anew?
  lim : w.lim = (done.filterMap It.lim?).getLast?
  fr : w.frees = (done.filterMap It.lv?).isEmpty
theorem ItInv.nil (s : Str) : ItInv s [] (bareW s) := ⟨rfl, rfl, rfl, rfl, rfl, rfl⟩
theorem ItInv.snoc {s : Str} {done : List It} {w : Wk} {it : It} (h : ItInv s done w) : ItInv s (done ++ [it]) (appIt w it) := by
  obtain ⟨h0, h1, h2, h3, h4, h5⟩ := h
  cases it <;> refine ⟨h0, ?_, ?_, ?_, ?_, ?_⟩ <;> simp [appIt, h1, h2, h3, h4, h5, List.filterMap_append, List.filterMap_cons, It.gu?, It.out?, It.anew?, It.lim?, It.lv?]
end Wm
namespace Wm
open PySem L2 PySem.Spec PySem.W PySem.SeqAt
open PyProof.Rows hiding St
def OV (p : Addr) (H : Hp) (v : V) : Prop := (∃ x, v = .str x ∧ x.length ≤ sizeLine) ∨ v = .non ∨ (∃ b, v = .bl b) ∨ (∃ i, v = .int i) ∨ (∃ q xs, v = .ref q ∧ H q = some (.lst xs)) ∨ ∃ q kvs, v = .ref q ∧ H q = some (.dK kvs) ∧ q ≠ p
section
variable {p : Addr} {H H' : Hp} {v : V}
theorem OV.any (h : OV p H v) : AnyV H v := by
  rcases h with ⟨x, rfl, hl⟩ | rfl | ⟨b, rfl⟩ | ⟨i, rfl⟩ | ⟨q, n, rfl, e⟩ | ⟨q, k, rfl, e, _⟩
  · trivial
  · trivial
  · trivial
  · trivial
  · exact .inl ⟨_, e⟩
  · exact .inr (.inr ⟨_, e⟩)
theorem OV.same (h : OV p H v) (s : Same H H') : OV p H' v := by
  rcases h with h | h | h | h | ⟨q, n, rfl, e⟩ | ⟨q, k, rfl, e, n⟩
  · exact .inl h
  · exact .inr (.inl h)
  · exact .inr (.inr (.inl h))
  · exact .inr (.inr (.inr (.inl h)))
  · exact .inr (.inr (.inr (.inr (.inl ⟨q, n, rfl, s _ _ e⟩))))
  · exact .inr (.inr (.inr (.inr (.inr ⟨q, k, rfl, s _ _ e, n⟩))))
theorem OV.str (h : OV p H v) : (∃ x, v = .str x ∧ x.length ≤ sizeLine) ∨ (AnyV H v ∧ ∀ x, v ≠ .str x) := by
  rcases id h with ⟨x, rfl, hl⟩ | rfl | ⟨b, rfl⟩ | ⟨i, rfl⟩ | ⟨q, n, rfl, e⟩ | ⟨q, k, rfl, e, _⟩
  · exact .inl ⟨x, rfl, hl⟩
  all_goals exact .inr ⟨h.any, fun x z => by cases z⟩
theorem OV.kn (h : OV p H v) : ∃ b, KnV H v b := by
  rcases h.str with ⟨x, rfl, hl⟩ | ⟨h1, h2⟩
  · exact ⟨_, .inl ⟨x, rfl, hl, rfl⟩⟩
  · exact ⟨false, .inr ⟨h1, h2, rfl⟩⟩
theorem OV.step {c : Addr} (h : OV p H v) (hp : PenAt H p c) (s : PenStep p c H H') : OV p H' v := by
  rcases h with h | h | h | h | ⟨q, n, rfl, e⟩ | ⟨q, k, rfl, e, n⟩
  · exact .inl h
  · exact .inr (.inl h)
  · exact .inr (.inr (.inl h))
  · exact .inr (.inr (.inr (.inl h)))
  · exact .inr (.inr (.inr (.inr (.inl ⟨q, n, rfl, s.at hp e rfl⟩))))
  · exact .inr (.inr (.inr (.inr (.inr ⟨q, k, rfl, s.atd e n, n⟩))))
def SV (H : Hp) (v : V) : Prop := (∃ x, v = .str x ∧ x.length ≤ sizeLine) ∨ (AnyV H v ∧ ∀ x, v ≠ .str x)
theorem SV.same (h : SV H v) (s : Same H H') : SV H' v := h.imp id fun z => ⟨z.1.same s, z.2⟩
theorem SV.kn (h : SV H v) : ∃ b, KnV H v b := by
  rcases h with ⟨x, rfl, hl⟩ | ⟨h1, h2⟩
  · exact ⟨_, .inl ⟨x, rfl, hl, rfl⟩⟩
  · exact ⟨false, .inr ⟨h1, h2, rfl⟩⟩
end
inductive PV where
  | str (x : Str)
  | gu (g : G5)
  | oth
inductive PEn where
  | pr (x y : PV)
  | bad
inductive PL where
  | seq (l : List PEn)
  | oth
def PvAt (p CG : Addr) (H : Hp) : PV → V → Prop
  | .str x, v => v = .str x ∧ x.length ≤ sizeLine
  | .gu g, v => GuAt CG H g v
  | .oth, v => OV p H v ∧ ∀ x, v ≠ .str x
def PeAt (p CG : Addr) (H : Hp) : PEn → V → Prop
  | .pr x y, v => ∃ t a b, v = .ref t ∧ H t = some (.tup [a, b]) ∧ PvAt p CG H x a ∧ PvAt p CG H y b
  | .bad, v => OV p H v ∨ ∃ t xs, v = .ref t ∧ H t = some (.tup xs) ∧ xs.length ≠ 2 ∧ xs.length ≤ 1000
def NolV (p : Addr) (H : Hp) (v : V) : Prop := (∃ x, v = .str x ∧ x.length ≤ sizeLine) ∨ v = .non ∨ (∃ b, v = .bl b) ∨ (∃ i, v = .int i) ∨ ∃ q kvs, v = .ref q ∧ H q = some (.dK kvs) ∧ q ≠ p
def PlAt (K : PySem.W.Frag) (p CG : Addr) (H : Hp) : PL → V → Prop
  | .seq l, v => ∃ a xs, v = .ref a ∧ SqB K H a xs ∧ All2 (PeAt p CG H) l xs ∧ l.length ≤ 1000000
  | .oth, v => NolV p H v
section
variable {p c CG : Addr} {H H' : Hp} {K : PySem.W.Frag}
theorem PvAt.same {x : PV} {v : V} (h : PvAt p CG H x v) (s : Same H H') : PvAt p CG H' x v := by
  cases x with
  | str x => exact h
  | gu g => exact GuAt.same h s
  | oth => exact ⟨h.1.same s, h.2⟩
theorem PeAt.same {x : PEn} {v : V} (h : PeAt p CG H x v) (s : Same H H') : PeAt p CG H' x v := by
  cases x with
  | pr x y =>
    obtain ⟨t, a, b, rfl, e, h1, h2⟩ := h
    exact ⟨t, a, b, rfl, s _ _ e, h1.same s, h2.same s⟩
  | bad =>
    rcases h with h | ⟨t, xs, rfl, e, h⟩
    · exact .inl (h.same s)
    · exact .inr ⟨t, xs, rfl, s _ _ e, h⟩
theorem NolV.same {v : V} (h : NolV p H v) (s : Same H H') : NolV p H' v := by
  rcases h with h | h | h | h | ⟨q, k, rfl, e, n⟩
  · exact .inl h
  · exact .inr (.inl h)
  · exact .inr (.inr (.inl h))
  · exact .inr (.inr (.inr (.inl h)))
  · exact .inr (.inr (.inr (.inr ⟨q, k, rfl, s _ _ e, n⟩)))
theorem PlAt.same {x : PL} {v : V} (h : PlAt K p CG H x v) (s : Same H H') : PlAt K p CG H' x v := by
  cases x with
  | seq l =>
    obtain ⟨a, xs, rfl, h1, h2, h3⟩ := h
    exact ⟨a, xs, rfl, h1.same s, h2.mono fun _ _ z => z.same s, h3⟩
  | oth => exact NolV.same h s
end
structure Pts where
  st : V
  g : PL
  o : PL
  n : PL
  lim : V
  fr : V
structure PtsAt (K : PySem.W.Frag) (p CG : Addr) (H : Hp) (t : Pts) (g o n : V) : Prop where
  st : SV H t.st
  g : PlAt K p CG H t.g g
  o : PlAt K p CG H t.o o
  n : PlAt K p CG H t.n n
  lim : OV p H t.lim
  fr : OV p H t.fr
theorem PtsAt.same {K : PySem.W.Frag} {p CG : Addr} {H H' : Hp} {t : Pts} {g o n : V} (h : PtsAt K p CG H t g o n) (s : Same H H') : PtsAt K p CG H' t g o n := ⟨h.st.same s, h.g.same s, h.o.same s, h.n.same s, h.lim.same s, h.fr.same s⟩
def notGu : PV → Bool
  | .gu _ => false
  | _ => true
theorem PvAt.ov {p CG : Addr} {H : Hp} {x : PV} {v : V} (h : PvAt p CG H x v) (n : notGu x = true) : OV p H v := by
  cases x with
  | str x => exact .inl ⟨x, h.1, h.2⟩
  | gu g => cases n
  | oth => exact h.1
end Wm
namespace Wm
open PySem L2 PySem.Spec PySem.W PySem.SeqAt
open PyProof.Rows hiding St
section
variable {w : Wk} {x h o f k g : Str} {t gs : List Str}
end
theorem num_inj {m j : Nat} (h : (toString (j : Int) : Str) = toString (m : Int)) : j = m := by
  have := congrArg (fun x : Str => x.cps.toList) h
  simp only [KIN.signs_num] at this
  rw [← KIN.val_back j, this, KIN.val_back]
end Wm
namespace Wm
open PySem PySem.Spec PySem.W PySem.SeqAt
open AutoSeq1 (wpAny_loadPart')
open MeetsSeq MeetsSeq2 MeetsSeq3 SeqRoads2
def EqKB (prog : Program) (w : World) (A : Around) (P : Shared → Prop) (y x : Value) (c : Bool) : Prop :=
  ∀ s, P s → ∀ (E : Value → Shared → Prop) (Q : Bool → Shared → Prop), (∀ s', P s' → Q c s') → wpAny (model prog w) A (eqBool y x) Q E s
def RcKB (prog : Program) (w : World) (A : Around) (P : Shared → Prop) (y x : Value) (c : Bool) : Prop :=
  ∀ s, P s → ∀ (E : Value → Shared → Prop) (Q : Value → Shared → Prop), (∀ s', P s' → Q (.bool c) s') → wpAny (model prog w) A (richCompare .Eq y x) Q E s
section
variable {prog : Program} {w : World} {A : Around} {P : Shared → Prop}
theorem EqKB.at {y x : Value} {c : Bool} (h : ∀ s, P s → EqAt A s y x c) : EqKB prog w A P y x c := fun s p E Q k => h s p prog w E Q (k s p)
theorem EqKB.refs {l b : Addr} {c : Bool} (hne : c = false → l ≠ b) (h : RcKB prog w A P (.ref l) (.ref b) c) : EqKB prog w A P (.ref l) (.ref b) c := fun s p E Q k => by
  by_cases e : l = b
  · subst e
    cases c with
    | false => exact absurd rfl (hne rfl)
    | true => exact EqAt.same (.ref l) prog w E Q (k s p)
  · unfold eqBool
    refine wpAny_holding (wpAny_ite_split (fun z => absurd (Value.ref.inj (eq_of_beq z)) e) fun _ => ?_)
    exact wpAny_bind (h s p E _ fun s' p' => wpAny_truthy_bool (k s' p'))
theorem tuple_keepB (l b : Addr) (xs ys : Array Value) (bs : Nat → Bool) (n m : Nat) (dd de : Option Addr) (sl sm : Array (Option Value)) : MeetsIn prog w (Builtin.«tuple.__eq__» ⟨[.ref l, .ref b], []⟩)
    (fun A R s => s.heap.get? l = some { cls := .type "tuple", dict := dd, data := .seq xs n, slots := sl } ∧ s.heap.get? b = some { cls := .type "tuple", dict := de, data := .seq ys m, slots := sm } ∧
      P s ∧ (∀ j (h1 : j < xs.size) (h2 : j < ys.size), EqKB prog w A.in1 P xs[j] ys[j] (bs j)) ∧
      (∀ s', xs.size = ys.size → (∀ j, j < xs.size → bs j = true) → P s' → R (.ok (.ret (.bool true))) s') ∧
      ∀ s', (xs.size ≠ ys.size ∨ ∃ j, j < xs.size ∧ j < ys.size ∧ bs j = false) → P s' → R (.ok (.ret (.bool false))) s') :=
  .of_wp fun A R s h => by
    obtain ⟨hp, g, d, tk, os⟩ := s
    obtain ⟨hl, hb, hP, he, hR, hF⟩ := h
    have f2 := AutoSeq1.sub_tuple_tuple
    have lenZ : (xs.toList.zip ys.toList).length = min xs.size ys.size := by simp
    wp_walk using wpAny_loadPart' hl, wpAny_loadPart' hb, wpAny_forIn_list _ (fun rest q s' => q.1 = none ∧ P s' ∧ ∃ i, rest = (xs.toList.zip ys.toList).drop i ∧ i ≤ (xs.toList.zip ys.toList).length ∧ ∀ j, j < i → bs j = true) _
    case turn =>
      rintro ⟨y, x⟩ rest q s' ⟨hq, p', i, hz, hi, hbs⟩
      have hlt : i < (xs.toList.zip ys.toList).length := Nat.lt_of_not_le fun z => by
        rw [List.drop_of_length_le z] at hz
        cases hz
      have h1 : i < xs.size := by omega
      have h2 : i < ys.size := by omega
      rw [List.drop_eq_getElem_cons hlt] at hz
      injection hz with hyx hrest
      obtain rfl : y = xs[i] := by simpa using congrArg Prod.fst hyx
      obtain rfl : x = ys[i] := by simpa using congrArg Prod.snd hyx
      refine wpAny_bind (he i h1 h2 s' p' _ _ fun s2 p2 => ?_)
      cases hc : bs i with
      | true =>
        wp_walk
        exact ⟨rfl, p2, i + 1, hrest, hlt, fun j hj => by
          by_cases e : j = i
          · rw [e, hc]
          · exact hbs j (by omega)⟩
      | false =>
        wp_walk
        exact ⟨_, rfl, hF s2 (.inr ⟨i, h1, h2, hc⟩) p2⟩
    case fin =>
      rintro ⟨q1, q2⟩ s' ⟨hq, p', i, hz, hi, hbs⟩
      simp only at hq
      subst hq
      have hil : i = (xs.toList.zip ys.toList).length := by
        have : ((xs.toList.zip ys.toList).drop i).length = 0 := by rw [← hz]; rfl
        rw [List.length_drop] at this
        omega
      wp_walk
      by_cases hsz : xs.size = ys.size
      · exact ⟨_, rfl, by simpa [Builtin.Tuple.tupleCompareSizes, hsz] using hR s' hsz (fun j hj => hbs j (by omega)) p'⟩
      · exact ⟨_, rfl, by simpa [Builtin.Tuple.tupleCompareSizes, show (xs.size == ys.size) = false from by simp [hsz]] using hF s' (.inl hsz) p'⟩
    case h => exact ⟨rfl, hP, 0, rfl, Nat.zero_le _, fun j h => by omega⟩
theorem rc_tuplesB {l b : Addr} {xs ys : Array Value} (bs : Nat → Bool) (hu : A.units < cLine) {s : Shared} (p : P s) (h1 : s.heap.IsTuple l xs) (h2 : s.heap.IsTuple b ys) (he : ∀ j (h1 : j < xs.size) (h2 : j < ys.size), EqKB prog w A.in1 P xs[j] ys[j] (bs j))
    {E : Value → Shared → Prop} {Q : Value → Shared → Prop} (k : ∀ s', xs.size = ys.size → (∀ j, j < xs.size → bs j = true) → P s' → Q (.bool true) s') (kf : ∀ s', (xs.size ≠ ys.size ∨ ∃ j, j < xs.size ∧ j < ys.size ∧ bs j = false) → P s' → Q (.bool false) s') : wpAny (model prog w) A (richCompare .Eq (.ref l) (.ref b)) Q E s := by
  obtain ⟨⟨c1, dd, da, sl⟩, ho, hc, n, hd⟩ := h1
  obtain ⟨⟨c2, de, db, sm⟩, ho2, hc2, m, hd2⟩ := h2
  simp only at hc hd hc2 hd2
  subst hc hd hc2 hd2
  exact wpAny_richCompare_same_room (T := "tuple") (op := .Eq) ⟨_, ho, rfl⟩ ⟨_, ho2, rfl⟩ F.slot_tuple_eq (call_meetsIn F.slot_tuple_eq ⟨_, ho, rfl⟩ F.entry_tuple_eq (F.args_tuple_eq_2 _ _) (tuple_keepB (P := P) l b xs ys bs n m dd de sl sm)
    ⟨ho, ho2, p, he, fun s' e a p' => show Value.bool true ≠ Value.notImplemented ∧ Q (.bool true) s' from ⟨(fun x => nomatch x), k s' e a p'⟩, fun s' e p' => show Value.bool false ≠ Value.notImplemented ∧ Q (.bool false) s' from ⟨(fun x => nomatch x), kf s' e p'⟩⟩) hu
end
section
variable {prog : Program} {w : World} {A : Around} {P : Shared → Prop} {k₀ : Type} [DecidableEq k₀] {knd : KeyKind prog w k₀}
theorem pairs_keepB {nm : String} {a b : Addr} {ka kb : List (k₀ × Value)} {oa ob : Obj} {es fs : Array DictEntry} {ea eb : Nat} (na : (a == sysModules) = false) (nb : (b == sysModules) = false)
    (at_ : ∀ s, P s → s.heap.get? a = some oa ∧ s.heap.get? b = some ob) (da : oa.data = .dict es ea) (db : ob.data = .dict fs eb) (ka1 : KeysOf knd es) (kb1 : KeysOf knd fs) (pa : Pairs knd es.toList ka) (pb : Pairs knd fs.toList kb) (len : ka.length = kb.length)
    (bs : k₀ → Bool) (hv : ∀ k v, (k, v) ∈ ka → ∃ y, valueAt kb k = some y ∧ EqKB prog w A P v y (bs k)) {s : Shared} (p : P s) {E : Value → Shared → Prop} {Q : Bool → Shared → Prop} (fin : ∀ s', (∀ k v, (k, v) ∈ ka → bs k = true) → P s' → Q true s') (finF : ∀ s', (∃ k v, (k, v) ∈ ka ∧ bs k = false) → P s' → Q false s') : wpAny (model prog w) A (Builtin.Dict.samePairs nm a b) Q E s := by
  have sza : ka.length = es.size := by rw [← pa.length]; exact Array.length_toList
  have szb : kb.length = fs.size := by rw [← pb.length]; exact Array.length_toList
  have sz : es.size = fs.size := by omega
  have look : ∀ k, findBy knd.is fs k = valueAt kb k := fun k => by
    rw [← pb.find k]
    clear szb pb kb1 db sz
    obtain ⟨l⟩ := fs
    simp [findBy]
  unfold Builtin.Dict.samePairs Builtin.Dict.showsAll
  rw [if_neg (show ¬ (a == sysModules) = true by rw [na]; exact Bool.false_ne_true), if_neg (show ¬ (b == sysModules) = true by rw [nb]; exact Bool.false_ne_true)]
  refine wpAny_bind (wpAny_pure (wpAny_bind (wpAny_pure (wpAny_bind (wpAny_dictEntries (at_ s p).1 da ?_)))))
  dsimp only
  refine wpAny_bind (wpAny_dictEntries (at_ s p).2 db ?_)
  rw [if_neg (by rw [sz]; simp)]
  refine wpAny_bind (wpAny_dictEpoch (at_ s p).1 da (wpAny_bind ?_))
  rw [Std.Legacy.Range.forIn_eq_forIn_range']
  simp only [Std.Legacy.Range.size, Nat.sub_zero, Nat.add_sub_cancel, Nat.div_one]
  refine wpAny_forIn_list _ (fun rest q s' => P s' ∧ q = (none, ()) ∧ ∃ i, rest = List.range' i (es.size - i) ∧ i ≤ es.size ∧ ∀ j, j < i → ∀ k v, ka[j]? = some (k, v) → bs k = true) _ ?_ ?_ _ _ ⟨p, rfl, 0, by simp, Nat.zero_le _, fun j h => by omega⟩
  · rintro x rest q s' ⟨p', rfl, i, hr, hi, hbs⟩
    have lt : i < es.size := Nat.lt_of_not_le fun z => by
      rw [Nat.sub_eq_zero_of_le z] at hr
      simp at hr
    have e1 : es.size - i = (es.size - (i + 1)) + 1 := by omega
    rw [e1, List.range'_succ] at hr
    obtain ⟨rfl, hrest⟩ := List.cons.inj hr
    refine wpAny_bind (wpAny_dictEntries (at_ s' p').1 da ?_)
    rw [Array.getElem?_eq_getElem lt]
    have lt' : x < ka.length := by omega
    obtain ⟨k, v, hkv⟩ : ∃ k v, ka[x] = (k, v) := ⟨_, _, rfl⟩
    have mem : (k, v) ∈ ka := hkv ▸ List.getElem_mem lt'
    obtain ⟨hkey, hval⟩ := pa.get? (i := x) (e := es[x]) (k := k) (v := v) (by rw [Array.getElem?_toList]; exact Array.getElem?_eq_getElem lt) (by rw [List.getElem?_eq_getElem lt', hkv])
    obtain ⟨k2, hk2, hh⟩ := ka1 es[x] (Array.getElem_mem lt)
    rw [knd.inj _ _ _ hk2 hkey] at hh
    obtain ⟨y, hy, he⟩ := hv k v mem
    show wpAny _ _ (holding [es[x].key, es[x].val] _ >>= _) _ _ _
    rw [hh]
    refine wpAny_bind (wpAny_holding (wpAny_bind (wpAny_dictFind_of hkey (at_ s' p').2 db kb1 ?_)))
    cases hj : fs.findIdx? fun e => knd.is k e.key with
    | none =>
      have : valueAt kb k = none := by rw [← look k, findBy_of_findIdx?, hj]
      rw [hy] at this
      cases this
    | some j =>
      obtain ⟨hjlt, _, _⟩ := Array.findIdx?_eq_some_iff_getElem.mp hj
      have hv' : valueAt kb k = some fs[j].val := by
        rw [← look k, findBy_of_findIdx?, hj]
        simp [Array.getElem?_eq_getElem hjlt]
      refine wpAny_bind (wpAny_dictEntries (at_ s' p').2 db ?_)
      rw [Array.getElem?_eq_getElem hjlt]
      obtain rfl : fs[j].val = y := Option.some.inj (hv'.symm.trans hy)
      rw [← hval] at he
      refine wpAny_holding (he s' p' _ _ fun s2 p2 => ?_)
      cases hc : bs k with
      | true =>
        show wpAny _ _ (if (!true) = true then _ else _) _ _ _
        rw [if_neg (by decide)]
        refine wpAny_bind (wpAny_dictEpoch (at_ s2 p2).1 da ?_)
        rw [if_neg (by simp)]
        exact wpAny_pure ⟨p2, rfl, x + 1, hrest, lt, fun j hj k1 v1 hkv1 => by
          by_cases e : j = x
          · subst e
            rw [List.getElem?_eq_getElem lt', hkv] at hkv1
            cases hkv1
            exact hc
          · exact hbs j (by omega) k1 v1 hkv1⟩
      | false =>
        show wpAny _ _ (if (!false) = true then _ else _) _ _ _
        rw [if_pos (by decide)]
        exact wpAny_pure (wpAny_pure (finF s2 ⟨k, v, mem, hc⟩ p2))
  · rintro q s' ⟨p', rfl, i, hr, hi, hbs⟩
    have hil : i = es.size := by
      have : (List.range' i (es.size - i)).length = 0 := by rw [← hr]; rfl
      rw [List.length_range'] at this
      omega
    exact wpAny_pure (fin s' (fun k v hm => by
      obtain ⟨j, hj, e⟩ := List.mem_iff_getElem.mp hm
      exact hbs j (by omega) k v (by rw [List.getElem?_eq_getElem hj, e])) p')
theorem RcKB.dicts {a b : Addr} {ka kb : List (k₀ × Value)} {oa ob : Obj} {es fs : Array DictEntry} {ea eb : Nat} (hu : A.units < cLine) (na : (a == sysModules) = false) (nb : (b == sysModules) = false)
    (at_ : ∀ s, P s → s.heap.get? a = some oa ∧ s.heap.get? b = some ob) (xa : oa.ExactDict) (xb : ob.ExactDict) (da : oa.data = .dict es ea) (db : ob.data = .dict fs eb) (ka1 : KeysOf knd es) (kb1 : KeysOf knd fs) (pa : Pairs knd es.toList ka) (pb : Pairs knd fs.toList kb) (len : ka.length = kb.length)
    (bs : k₀ → Bool) (hv : ∀ k v, (k, v) ∈ ka → ∃ y, valueAt kb k = some y ∧ EqKB prog w A.in1 P v y (bs k)) {c : Bool} (hc : c = true ↔ ∀ k v, (k, v) ∈ ka → bs k = true) : RcKB prog w A P (.ref a) (.ref b) c := fun s p E Q fin => by
  have ta : s.TypeIs (.ref a) "dict" := ⟨oa, (at_ s p).1, xa.1⟩
  have tb : s.TypeIs (.ref b) "dict" := ⟨ob, (at_ s p).2, xb.1⟩
  refine wpAny_richCompare_same_room (op := .Eq) ta tb PySem.F.slot_dict_eq (wpAny_call_entry PySem.F.slot_dict_eq ta PySem.F.entry_dict_eq ?_ (PySem.F.args_dict_eq_2 _ _)) hu
  show wpAny _ _ (Builtin.Dict.dictSlotArgs "__eq__" ⟨[.ref a, .ref b], []⟩ >>= _) _ _ s
  refine wpAny_bind ?_
  unfold Builtin.Dict.dictSlotArgs
  refine wpAny_bind (wpAny_notOrdered_dict ta (wpAny_pure ?_))
  refine wpAny_bind (wpAny_isInstance (T := "dict") tb PySem.F.sub_dict_dict ?_)
  simp only [Bool.not_true, Bool.false_eq_true, if_false]
  refine wpAny_bind (wpAny_pure (wpAny_bind (wpAny_pure (wpAny_bind (pairs_keepB na nb at_ da db ka1 kb1 pa pb len bs hv p (fun s' ha p' => ?_) fun s' hb p' => ?_)))))
  · have e : c = true := hc.mpr ha
    subst e
    exact wpAny_pure ⟨_, rfl, (fun x => nomatch x), by simpa using fin s' p'⟩
  · have e : c = false := by
      obtain ⟨k, v, hm, hf⟩ := hb
      refine Bool.eq_false_iff.mpr fun z => ?_
      rw [hc.mp z k v hm] at hf
      cases hf
    subst e
    exact wpAny_pure ⟨_, rfl, (fun x => nomatch x), by simpa using fin s' p'⟩
end
section
open L2
open PyProof.Rows hiding St
def VKB (X : Cx) (A : Around) (H : Hp) (v y : V) (c : Bool) : Prop := ∀ pins σ u z, RelV v u → RelV y z → EqKB X.prog X.w A (PP X pins σ H) u z c
theorem VKB.plain {X : Cx} {A : Around} {H : Hp} {v y : V} {d e : PyData} (hv : Dp X.K H v d) (hy : Dp X.K H y e) (pl : d.plain = true) (pe : e.plain = true) (hu : A.units + d.depth < cLine) (hs : ∀ H' x d, Same H H' → Dp X.K H x d → Dp X.K H' x d) : VKB X A H v y (PyData.eqv d e) := fun pins σ u z ru rz =>
  EqKB.at fun s ⟨H', sm, I⟩ => by
    obtain ⟨as, r1⟩ := Dp.reads I d v u (hs _ _ _ sm hv) ru
    obtain ⟨bs, r2⟩ := Dp.reads I e y z (hs _ _ _ sm hy) rz
    exact eqAt_plain d e A s u z as bs r1 r2 pl pe (by omega)
inductive PB (R : V → V → Bool → Prop) : List V → List V → Bool → Prop
  | nil : PB R [] [] true
  | left {y : V} {ys : List V} : PB R [] (y :: ys) false
  | right {x : V} {xs : List V} : PB R (x :: xs) [] false
  | cons {x y : V} {xs ys : List V} {b c : Bool} : R x y b → PB R xs ys c → PB R (x :: xs) (y :: ys) (b && c)
theorem PB.items {X : Cx} {A : Around} {H : Hp} {pins : List (Addr × Obj)} {σ : St} : ∀ {xs ys : List V} {c : Bool} {us zs : List Value}, PB (fun v y b => VKB X A H v y b) xs ys c → Vals xs us → Vals ys zs → ∃ bs : Nat → Bool, (∀ j (h1 : j < us.length) (h2 : j < zs.length), EqKB X.prog X.w A (PP X pins σ H) us[j] zs[j] (bs j)) ∧
    (c = true ↔ us.length = zs.length ∧ ∀ j, j < us.length → bs j = true) ∧ (c = false → us.length ≠ zs.length ∨ ∃ j, j < us.length ∧ j < zs.length ∧ bs j = false)
  | _, _, _, _, _, .nil, r1, r2 => by
    cases r1
    cases r2
    exact ⟨fun _ => true, fun j h1 _ => absurd h1 (by simp), ⟨fun _ => ⟨rfl, fun _ _ => rfl⟩, fun _ => rfl⟩, fun z => by cases z⟩
  | _, _, _, _, _, .left, r1, r2 => by
    cases r1
    cases r2
    exact ⟨fun _ => true, fun j h1 _ => absurd h1 (by simp), ⟨(fun z => by cases z), (fun z => by simp at z)⟩, fun _ => .inl (by simp)⟩
  | _, _, _, _, _, .right, r1, r2 => by
    cases r1
    cases r2
    exact ⟨fun _ => true, fun j _ h2 => absurd h2 (by simp), ⟨(fun z => by cases z), (fun z => by simp at z)⟩, fun _ => .inl (by simp)⟩
  | _, _, _, _, _, .cons (b := b) (c := c) h t, r1, r2 => by
    cases r1 with
    | cons a1 b1 =>
      cases r2 with
      | cons a2 b2 =>
        obtain ⟨bs, e1, e2, e3⟩ := PB.items (pins := pins) (σ := σ) t b1 b2
        refine ⟨fun j => match j with | 0 => b | j + 1 => bs j, fun j h1 h2 => ?_, ⟨fun z => ?_, fun z => ?_⟩, fun z => ?_⟩
        · cases j with
          | zero => exact h pins σ _ _ a1 a2
          | succ j => exact e1 j (by simpa using h1) (by simpa using h2)
        · rw [Bool.and_eq_true] at z
          obtain ⟨h3, h4⟩ := e2.mp z.2
          refine ⟨by simp [h3], fun j hj => ?_⟩
          cases j with
          | zero => exact z.1
          | succ j => exact h4 j (by simpa using hj)
        · obtain ⟨z1, z2⟩ := z
          rw [Bool.and_eq_true]
          exact ⟨z2 0 (by simp), e2.mpr ⟨by simpa using z1, fun j hj => z2 (j + 1) (by simpa using hj)⟩⟩
        · cases b with
          | false => exact .inr ⟨0, by simp, by simp, rfl⟩
          | true =>
            rcases e3 (by simpa using z) with h | ⟨j, h1, h2, h3⟩
            · exact .inl (by simpa using h)
            · exact .inr ⟨j + 1, by simpa using h1, by simpa using h2, h3⟩
theorem VKB.tuple {X : Cx} {A : Around} {H : Hp} {p q : Addr} {xs ys : List V} {c : Bool} (hp : SqT X.K H p xs) (hq : SqT X.K H q ys) (hu : A.units < cLine) (hne : c = false → p ≠ q) (h : PB (fun v y b => VKB X A.in1 H v y b) xs ys c) : VKB X A H (.ref p) (.ref q) c := fun pins σ u z ru rz => by
  cases ru
  cases rz
  refine EqKB.refs hne ?_
  intro s ⟨H', sm, I⟩ E Q k
  obtain ⟨us, r1, t1, _⟩ := I.tuple (same_seqT sm hp)
  obtain ⟨zs, r2, t2, _⟩ := I.tuple (same_seqT sm hq)
  obtain ⟨bs, e1, e2, e3⟩ := PB.items (pins := pins) (σ := σ) h r1 r2
  refine rc_tuplesB (P := PP X pins σ H) bs hu ⟨H', sm, I⟩ t1 t2 (fun j h1 h2 => e1 j (by simpa using h1) (by simpa using h2)) (fun s' hs ha p' => ?_) (fun s' hb p' => ?_)
  · have e : c = true := e2.mpr ⟨by simpa using hs, fun j hj => ha j (by simpa using hj)⟩
    subst e
    exact k s' p'
  · have e : c = false := by
      refine Bool.eq_false_iff.mpr fun z => ?_
      obtain ⟨h1, h2⟩ := e2.mp z
      rcases hb with hb | ⟨j, j1, j2, j3⟩
      · exact hb (by simpa using h1)
      · rw [h2 j (by simpa using j1)] at j3
        cases j3
    subst e
    exact k s' p'
theorem kv_left : ∀ {ks : List (Key × V)} {va : List (Key × Value)}, KV ks va → ∀ {j : Nat} {k : Key} {v : Value}, va[j]? = some (k, v) → ∃ x, (k, x) ∈ ks := by
  intro ks va hh
  unfold KV at hh
  induction hh with
  | nil => intro j k v e; simp at e
  | cons h0 _ ih =>
    intro j k v e
    cases j with
    | zero =>
      have e' := Option.some.inj (show some _ = some (k, v) from e)
      subst e'
      exact ⟨_, List.mem_cons.mpr (.inl (Prod.ext h0.1.symm rfl))⟩
    | succ j =>
      obtain ⟨x, h1⟩ := ih (by simpa using e)
      exact ⟨x, List.mem_cons_of_mem _ h1⟩
theorem kv_right : ∀ {ks : List (Key × V)} {va : List (Key × Value)}, KV ks va → ∀ {k : Key} {x : V}, (k, x) ∈ ks → ∃ v, (k, v) ∈ va := by
  intro ks va hh
  unfold KV at hh
  induction hh with
  | nil => intro k x e; cases e
  | cons h0 _ ih =>
    intro k x e
    rcases List.mem_cons.mp e with e | e
    · subst e
      exact ⟨_, List.mem_cons.mpr (.inl (Prod.ext h0.1 rfl))⟩
    · obtain ⟨v, h1⟩ := ih e
      exact ⟨v, List.mem_cons_of_mem _ h1⟩
theorem VKB.own {X : Cx} {A : Around} {H : Hp} {CX : CXT} {C f a b dx : Addr} {fs : List (Str × V)} {fd : FuncData} {ps : List Str} {k : Nat} {sp : Sp} {tb : Value} {c : Bool} (hne : c = false → a ≠ b) (F : FnOk X.prog X.w X.K X.mg X.base CX k f fd ps sp) (ncx : ∀ outer H s e s', CX outer H s (fun _ _ _ => False) e s' → False) (room : Room k A) (hA : A.frames = X.A.frames)
    (hm : Meth X.K C "__eq__" f) (hb : L2.Binds X.K fd ps []) (ha : H a = some (.ins C dx fs)) (ty : ∀ H', Same H H' → TyX X.K H' (.ref b) tb) (n : PySem.W.notFirst X.K C tb = true) (hsp : ∀ H', Same H H' → sp [.ref a, .ref b] H' (fun v H'' => v = .bl c ∧ Same H' H'') (fun _ _ _ => False)) : VKB X A H (.ref a) (.ref b) c := fun pins σ u z ru rz => by
  cases ru
  cases rz
  refine EqKB.refs hne ?_
  intro s ⟨H', sm, I⟩ E Q kk
  obtain ⟨mA, J, _⟩ := ins_get I.hok (sm _ _ ha)
  obtain ⟨od, J, _⟩ := J.look
  obtain ⟨m, hF⟩ := I.fr
  obtain ⟨PP1, Z, hp, _⟩ := kit_of I (show RelV (.ref b) (.ref b) from rfl) (ty H' sm)
  refine PySem.W.cmp_K (op := .Eq) (tb := tb) room.units0 hF I.ok.mod.kin J (Z.ty _ _ I.kIn hp) n hm.at_ hm.fn ?_
  have q := hsp H' sm
  have hl : [Value.ref a, .ref b].length = ps.length := F.len _ _ _ _ q
  have e0 : Env0 X.prog X.w X.K X.mg X.base A X.stack s H' := { I.env0 with frames := hA.trans I.env0.frames }
  refine wpAny_call (codeAny_mono (F.run A X.stack s H' ⟨[.ref a, .ref b], []⟩ [.ref a, .ref b] [.ref a, .ref b] _ _ room e0 (by have := hb s [.ref a, .ref b] I.kIn (by rw [List.append_nil]; exact hl); rwa [List.append_nil] at this) (.cons rfl (.cons rfl .nil)) q) fun r s' hq => ?_)
  match r, hq with
  | .error e, hq => exact (ncx _ _ _ _ _ hq).elim
  | .ok (.ret u), hq =>
    obtain ⟨v, H2, I2, rv, rfl, s2⟩ := I.after hq
    cases rv
    exact kk s' ⟨H2, sm.trans s2, I2⟩
  | .ok .next, hq => exact hq.elim
  | .ok .brk, hq => exact hq.elim
  | .ok .cont, hq => exact hq.elim
def rEqKB (X : Cx) : R2 := fun x y H Q => ∃ (a b : Addr) (ks ls : List (Key × V)) (bs : Key → Bool) (c : Bool), x = .ref a ∧ y = .ref b ∧ a ≠ b ∧ H a = some (.dK ks) ∧ H b = some (.dK ls) ∧ ks.length = ls.length ∧
  (∀ oa ob, ∀ k v, (k, v) ∈ ks → ∃ y, valV ls k = some y ∧ VKB X X.A.in1 (upd (upd H a (.frz oa (.dK ks))) b (.frz ob (.dK ls))) v y (bs k)) ∧ (c = true ↔ ∀ k v, (k, v) ∈ ks → bs k = true) ∧ ∀ H', Same H H' → Q (.bl c) H'
theorem op_eqKB {X : Cx} (hu : X.A.units < cLine) : OpR X (compareOp .Eq) (rEqKB X) := by
  intro pins s σ H x y v u Q I rx ry h
  obtain ⟨a, b, ks, ls, bs, c, rfl, rfl, nab, ea, eb, hlen, hv, hc, q⟩ := h
  cases rx
  cases ry
  obtain ⟨oa, I1⟩ := I.lock ea trivial
  have eb1 : (upd H a (.frz oa (.dK ks))) b = some (.dK ls) := (upd_ne (Ne.symm nab)).trans eb
  obtain ⟨ob, I2⟩ := I1.lock eb1 trivial
  have fb : (upd (upd H a (.frz oa (.dK ks))) b (.frz ob (.dK ls))) b = some (.frz ob (.dK ls)) := upd_same
  have fa : (upd (upd H a (.frz oa (.dK ks))) b (.frz ob (.dK ls))) a = some (.frz oa (.dK ks)) := (upd_ne nab).trans upd_same
  obtain ⟨na, ga, xa, es, epa, va, da, _, kva, ⟨oa', es', ga', _, da', kya, pra, _⟩⟩ := I2.frzK fa
  obtain ⟨nb, gb, xb, gs, epb, vb, db, _, kvb, ⟨ob', gs', gb', _, db', kyb, prb, _⟩⟩ := I2.frzK fb
  rw [ga] at ga'
  cases ga'
  rw [gb] at gb'
  cases gb'
  rw [da] at da'
  cases da'
  rw [db] at db'
  cases db'
  have hl : va.length = vb.length := by rw [← kva.length, ← kvb.length]; exact hlen
  have hvv : ∀ k v, (k, v) ∈ va → ∃ y, valueAt vb k = some y ∧ EqKB X.prog X.w X.A.in1 (PP X pins σ (upd (upd H a (.frz oa (.dK ks))) b (.frz ob (.dK ls)))) v y (bs k) := fun k v hm => by
    obtain ⟨j, hj⟩ := List.mem_iff_getElem?.mp hm
    have step : ∀ {ks : List (Key × V)} {va : List (Key × Value)}, KV ks va → ∀ {j : Nat} {k : Key} {v : Value}, va[j]? = some (k, v) → ∃ x, (k, x) ∈ ks ∧ RelV x v := by
      intro ks va hh
      unfold KV at hh
      induction hh with
      | nil => intro j k v e; simp at e
      | cons h0 _ ih =>
        intro j k v e
        cases j with
        | zero =>
          have e' := Option.some.inj (show some _ = some (k, v) from e)
          subst e'
          exact ⟨_, List.mem_cons.mpr (.inl (Prod.ext h0.1.symm rfl)), h0.2⟩
        | succ j =>
          obtain ⟨x, h1, h2⟩ := ih (by simpa using e)
          exact ⟨x, List.mem_cons_of_mem _ h1, h2⟩
    obtain ⟨x, hx, rx⟩ := step kva hj
    obtain ⟨y, hy, hk⟩ := hv oa ob k x hx
    have rr : RelO (some y) (valueAt vb k) := by rw [← hy]; exact kvb.val k
    obtain ⟨z, hz, rz⟩ := rr.some_of
    exact ⟨z, hz, hk pins σ v z rx rz⟩
  have hcc : c = true ↔ ∀ k v, (k, v) ∈ va → bs k = true := by
    refine hc.trans ⟨fun h k v hm => ?_, fun h k x hx => ?_⟩
    · obtain ⟨j, hj⟩ := List.mem_iff_getElem?.mp hm
      obtain ⟨x, hx⟩ := kv_left kva hj
      exact h k x hx
    · obtain ⟨v, hv2⟩ := kv_right kva hx
      exact h k v hv2
  have at_ : ∀ s', PP X pins σ (upd (upd H a (.frz oa (.dK ks))) b (.frz ob (.dK ls))) s' → s'.heap.get? a = some oa ∧ s'.heap.get? b = some ob := fun s' ⟨H', sm, I'⟩ => ⟨(I'.frzK (sm _ _ fa)).2.1, (I'.frzK (sm _ _ fb)).2.1⟩
  refine RcKB.dicts (P := PP X pins σ (upd (upd H a (.frz oa (.dK ks))) b (.frz ob (.dK ls)))) hu na nb at_ xa xb da db kya kyb pra prb hl bs hvv hcc s ⟨_, Same.refl _, I2⟩ _ _ fun s' ⟨H', sm, I'⟩ => ?_
  have J1 := I'.unlock (sm _ _ fb) (I1.nofrz eb1 trivial)
  have J2 := J1.unlock (d := a) (od := oa) (u := .dK ks) ((upd_ne nab).trans (sm _ _ fa)) (I.nofrz ea trivial)
  refine ⟨.bl c, _, J2, rfl, q _ fun c o e => ?_⟩
  by_cases hc : c = a
  · subst hc
    rw [ea] at e
    cases e
    exact upd_same
  · by_cases hd : c = b
    · subst hd
      rw [eb] at e
      cases e
      exact (upd_ne hc).trans upd_same
    · exact (upd_ne hc).trans ((upd_ne hd).trans (sm _ _ ((upd_ne hd).trans ((upd_ne hc).trans e))))
end
end Wm
namespace Wm
open PySem L2 PySem.Spec PySem.W PySem.SeqAt
open PyProof.Rows hiding St
def ltr (c : Nat) : Bool := (decide (65 ≤ c) && decide (c ≤ 90)) || (decide (97 ≤ c) && decide (c ≤ 122))
def ltrs (x : Str) : Bool := x.cps.toList.all ltr
theorem ltr_char {c : Nat} (h : ltr c = true) : Builtin.Str.reprChar 39 c = [c] := by
  have f : ((List.range 123).all fun c => !ltr c || decide (Builtin.Str.reprChar 39 c = [c])) = true := by decide +kernel
  have hc : c < 123 := by
    unfold ltr at h
    simp only [Bool.or_eq_true, Bool.and_eq_true, decide_eq_true_eq] at h
    omega
  have := List.all_eq_true.mp f c (List.mem_range.mpr hc)
  rw [h] at this
  simpa using this
theorem ltr_39 {c : Nat} (h : ltr c = true) : c ≠ 39 := by
  unfold ltr at h
  simp only [Bool.or_eq_true, Bool.and_eq_true, decide_eq_true_eq] at h
  omega
theorem cons_cut {c : Nat} {a b x y : List Nat} (h : c :: a ++ x = c :: b ++ y) : a ++ x = b ++ y := (List.cons.inj h).2
theorem fold_ltr : ∀ (l : List Nat) (acc : Array Nat), l.all ltr = true → (l.foldl (fun out c => out ++ (Builtin.Str.reprChar 39 c).toArray) acc).toList = acc.toList ++ l
  | [], acc, _ => by simp
  | c :: r, acc, h => by
    rw [List.all_cons, Bool.and_eq_true] at h
    rw [List.foldl_cons, fold_ltr r _ h.2, ltr_char h.1]
    simp
theorem repr_ltr {x : Str} (h : ltrs x = true) : (reprText x).cps.toList = 39 :: (x.cps.toList ++ [39]) := by
  have hn : x.cps.contains 39 = false := by
    cases e : x.cps.contains 39 with
    | false => rfl
    | true =>
      have hm : 39 ∈ x.cps.toList := by simpa using e
      have := List.all_eq_true.mp h 39 hm
      exact absurd rfl (ltr_39 this)
  have hq : reprQuote x = 39 := by
    unfold reprQuote
    rw [hn]
    rfl
  unfold reprText
  rw [hq]
  show (Array.push _ 39).toList = _
  rw [Array.toList_push, ← Array.foldl_toList, fold_ltr _ _ h]
  simp
def sh (d : PyData) : List Nat := d.shown.cps.toList
mutual
def sim : PyData → Bool
  | .none => true
  | .bool _ => true
  | .int i => decide (0 ≤ i) && decide (i ≤ 99)
  | .str x => ltrs x
  | .list xs => simAll xs
  | .tuple xs => simAll xs
  | .dict _ => false
def simAll : List PyData → Bool
  | [] => true
  | x :: xs => sim x && simAll xs
end
def itE (c : Nat) : List PyData → List Nat
  | [] => [c]
  | a :: r => 44 :: 32 :: (sh a ++ itE c r)
theorem textFrom_eq : ∀ (ts : List Str) (k : Nat) (acc : Str), 0 < k → (textFrom k acc ts).cps.toList = acc.cps.toList ++ ts.flatMap fun t => 44 :: 32 :: t.cps.toList
  | [], k, acc, _ => by
    show acc.cps.toList = _
    simp
  | t :: r, k, acc, hk => by
    show (textFrom (k + 1) (acc ++ (if k > 0 then ", " else "" : String) ++ t) r).cps.toList = _
    rw [textFrom_eq r (k + 1) _ (by omega), if_pos hk, app_list, app_list]
    simp only [List.flatMap_cons, List.append_assoc]
    rfl
theorem itE_eq (c : Nat) : ∀ l : List PyData, itE c l = (PyData.shownAll l).flatMap (fun t => 44 :: 32 :: t.cps.toList) ++ [c]
  | [] => rfl
  | a :: r => by
    show 44 :: 32 :: (sh a ++ itE c r) = _
    rw [itE_eq c r]
    show _ = ((PyData.shown a :: PyData.shownAll r).flatMap _) ++ [c]
    simp [sh]
theorem sh_list0 : sh (.list []) = [91, 93] := by decide +kernel
theorem sh_list (a : PyData) (r : List PyData) : sh (.list (a :: r)) = 91 :: (sh a ++ itE 93 r) := by
  show (PyData.shown (.list (a :: r))).cps.toList = _
  rw [PyData.shown]
  show (textFrom 0 "[" (PyData.shown a :: PyData.shownAll r) ++ ("]" : Str)).cps.toList = _
  rw [app_list]
  show (textFrom (0 + 1) (("[" : Str) ++ (if (0 : Nat) > 0 then ", " else "" : String) ++ PyData.shown a) (PyData.shownAll r)).cps.toList ++ _ = _
  rw [textFrom_eq _ _ _ (by decide), if_neg (by decide), app_list, app_list, itE_eq]
  simp only [List.append_assoc]
  rfl
theorem sh_tup0 : sh (.tuple []) = [40, 41] := by decide +kernel
theorem sh_tup1 (a : PyData) : sh (.tuple [a]) = 40 :: (sh a ++ [44, 41]) := by
  show (PyData.shown (.tuple [a])).cps.toList = _
  rw [PyData.shown]
  show (("(" : Str) ++ Str.join ", " [PyData.shown a] ++ (if ([PyData.shown a]).length == 1 then ",)" else ")" : String)).cps.toList = _
  rw [app_list, app_list, if_pos (show ([PyData.shown a].length == 1) = true from rfl)]
  simp only [List.append_assoc]
  rfl
theorem join_eq : ∀ (ts : List Str) (a : Str), (Str.join ", " (a :: ts)).cps.toList = a.cps.toList ++ ts.flatMap fun t => 44 :: 32 :: t.cps.toList
  | [], a => by
    show a.cps.toList = _
    simp
  | t :: r, a => by
    rw [join_c2, app_list, app_list, join_eq r t]
    simp only [List.flatMap_cons, List.append_assoc]
    rfl
theorem sh_tup2 (a b : PyData) (r : List PyData) : sh (.tuple (a :: b :: r)) = 40 :: (sh a ++ itE 41 (b :: r)) := by
  show (PyData.shown (.tuple (a :: b :: r))).cps.toList = _
  rw [PyData.shown]
  show (("(" : Str) ++ Str.join ", " (PyData.shown a :: PyData.shownAll (b :: r)) ++ (if (PyData.shown a :: PyData.shown b :: PyData.shownAll r).length == 1 then ",)" else ")" : String)).cps.toList = _
  rw [app_list, app_list, if_neg (by simp), join_eq, itE_eq]
  simp only [List.append_assoc]
  rfl
def En (x : List Nat) : Prop := x = [] ∨ ∃ c r, x = c :: r ∧ (c = 44 ∨ c = 93 ∨ c = 41)
theorem en_it {c : Nat} (hc : c = 93 ∨ c = 41) (l : List PyData) (x : List Nat) : En (itE c l ++ x) := by
  cases l with
  | nil => exact .inr ⟨c, x, rfl, .inr hc⟩
  | cons a r => exact .inr ⟨44, _, rfl, .inl rfl⟩
def kd : PyData → Nat
  | .none => 0
  | .bool true => 1
  | .bool false => 2
  | .int _ => 3
  | .str _ => 4
  | .list _ => 5
  | .tuple _ => 6
  | .dict _ => 7
def cl (c : Nat) : Nat := if c = 78 then 0 else if c = 84 then 1 else if c = 70 then 2 else if 48 ≤ c ∧ c ≤ 57 then 3 else if c = 39 then 4 else if c = 91 then 5 else if c = 40 then 6 else 8
theorem int_sh {i : Int} (h : sim (.int i) = true) : ∃ n : Nat, i = n ∧ n ≤ 99 := by
  simp only [sim, Bool.and_eq_true, decide_eq_true_eq] at h
  exact ⟨i.toNat, by omega, by omega⟩
theorem int_all {n : Nat} (h : n ≤ 99) : sh (.int n) ≠ [] ∧ ∀ c, c ∈ sh (.int n) → 48 ≤ c ∧ c ≤ 57 := by
  have f : ((List.range 100).all fun n => !(sh (.int (n : Nat))).isEmpty && (sh (.int (n : Nat))).all fun c => decide (48 ≤ c) && decide (c ≤ 57)) = true := by decide +kernel
  have := List.all_eq_true.mp f n (List.mem_range.mpr (by omega))
  simp only [Bool.and_eq_true, Bool.not_eq_true', List.all_eq_true, decide_eq_true_eq] at this
  exact ⟨fun z => by rw [z] at this; simp at this, this.2⟩
theorem sh_kd {d : PyData} (h : sim d = true) : ∃ c r, sh d = c :: r ∧ cl c = kd d ∧ c ≠ 93 ∧ c ≠ 41 := by
  cases d with
  | none => exact ⟨78, _, rfl, rfl, by decide, by decide⟩
  | bool b => cases b with
    | true => exact ⟨84, _, rfl, rfl, by decide, by decide⟩
    | false => exact ⟨70, _, rfl, rfl, by decide, by decide⟩
  | int i =>
    obtain ⟨n, rfl, hn⟩ := int_sh h
    obtain ⟨h1, h2⟩ := int_all hn
    cases e : sh (.int n) with
    | nil => exact absurd e h1
    | cons c r =>
      have := h2 c (by rw [e]; simp)
      refine ⟨c, r, rfl, ?_, by omega, by omega⟩
      unfold cl kd
      rw [if_neg (by omega), if_neg (by omega), if_neg (by omega), if_pos this]
  | str x =>
    refine ⟨39, x.cps.toList ++ [39], ?_, rfl, by decide, by decide⟩
    show (PyData.shown (.str x)).cps.toList = _
    rw [PyData.shown, repr_ltr h]
  | list xs => cases xs with
    | nil => exact ⟨91, _, sh_list0, rfl, by decide, by decide⟩
    | cons a r => exact ⟨91, _, sh_list a r, rfl, by decide, by decide⟩
  | tuple xs =>
    match xs with
    | [] => exact ⟨40, _, sh_tup0, rfl, by decide, by decide⟩
    | [a] => exact ⟨40, _, sh_tup1 a, rfl, by decide, by decide⟩
    | a :: b :: r => exact ⟨40, _, sh_tup2 a b r, rfl, by decide, by decide⟩
  | dict _ => cases h
theorem kd_eq {d e : PyData} (h : sim d = true) (h' : sim e = true) {x y : List Nat} (hh : sh d ++ x = sh e ++ y) : kd d = kd e := by
  obtain ⟨c, r, e1, k1, _⟩ := sh_kd h
  obtain ⟨c', r', e2, k2, _⟩ := sh_kd h'
  rw [e1, e2] at hh
  have := (List.cons.inj hh).1
  rw [← k1, ← k2, this]
theorem num_cut {n m : Nat} (hn : n ≤ 99) (hm : m ≤ 99) {x y : List Nat} (hx : En x) (hy : En y) (h : sh (.int n) ++ x = sh (.int m) ++ y) : n = m ∧ x = y := by
  have tw : ∀ {k : Nat} {z : List Nat}, k ≤ 99 → En z → (sh (.int k) ++ z).takeWhile (fun c => decide (48 ≤ c) && decide (c ≤ 57)) = sh (.int k) := fun {k z} hk hz => by
    rw [List.takeWhile_append_of_pos (fun c hc => by
      have := (int_all hk).2 c hc
      simp [this.1, this.2])]
    rcases hz with rfl | ⟨c, r, rfl, hc⟩
    · simp
    · rw [List.takeWhile_cons_of_neg (by simp; omega), List.append_nil]
  have e : sh (.int n) = sh (.int m) := by rw [← tw hn hx, ← tw hm hy, h]
  refine ⟨?_, by rw [e] at h; exact List.append_cancel_left h⟩
  refine num_inj (str_ext ?_)
  have e' : (PyData.shown (.int n)).cps.toList = (PyData.shown (.int m)).cps.toList := e
  rw [PyData.shown, PyData.shown] at e'
  exact e'
mutual
theorem sh_inj : ∀ (d e : PyData), sim d = true → sim e = true → ∀ x y : List Nat, En x → En y → sh d ++ x = sh e ++ y → d = e ∧ x = y
  | .none, e, h, h', x, y, hx, hy, hh => by
    have hk := kd_eq h h' hh
    cases e with
    | none => exact ⟨rfl, List.append_cancel_left hh⟩
    | bool b => cases b <;> cases hk
    | _ => cases hk
  | .bool b, e, h, h', x, y, hx, hy, hh => by
    have hk := kd_eq h h' hh
    cases e with
    | bool b' =>
      cases b <;> cases b' <;> first | exact ⟨rfl, List.append_cancel_left hh⟩ | cases hk
    | _ => cases b <;> cases hk
  | .int i, e, h, h', x, y, hx, hy, hh => by
    have hk := kd_eq h h' hh
    cases e with
    | int j =>
      obtain ⟨n, rfl, hn⟩ := int_sh h
      obtain ⟨m, rfl, hm⟩ := int_sh h'
      obtain ⟨rfl, r⟩ := num_cut hn hm hx hy hh
      exact ⟨rfl, r⟩
    | bool b => cases b <;> cases hk
    | _ => cases hk
  | .str a, e, h, h', x, y, hx, hy, hh => by
    have hk := kd_eq h h' hh
    cases e with
    | str b =>
      have e1 : sh (.str a) = 39 :: (a.cps.toList ++ [39]) := by
        show (PyData.shown (.str a)).cps.toList = _
        rw [PyData.shown, repr_ltr h]
      have e2 : sh (.str b) = 39 :: (b.cps.toList ++ [39]) := by
        show (PyData.shown (.str b)).cps.toList = _
        rw [PyData.shown, repr_ltr h']
      rw [e1, e2] at hh
      have h1 : a.cps.toList ++ [39] ++ x = b.cps.toList ++ [39] ++ y := (List.cons.inj hh).2
      rw [List.append_assoc, List.append_assoc] at h1
      have na : ∀ {z : Str}, ltrs z = true → 39 ∉ z.cps.toList := fun hz hm => ltr_39 (List.all_eq_true.mp hz 39 hm) rfl
      obtain ⟨h2, h3⟩ := cut_eq (na h) (na h') h1
      exact ⟨by rw [str_ext h2], h3⟩
    | bool b => cases b <;> cases hk
    | _ => cases hk
  | .list [], e, h, h', x, y, hx, hy, hh => by
    have hk := kd_eq h h' hh
    cases e with
    | list m =>
      cases m with
      | nil => exact ⟨rfl, List.append_cancel_left hh⟩
      | cons b s =>
        rw [sh_list0, sh_list] at hh
        simp only [simAll, sim, Bool.and_eq_true] at h'
        obtain ⟨c, r, e1, _, n1, _⟩ := sh_kd h'.1
        rw [e1] at hh
        simp at hh
        omega
    | bool b => cases b <;> cases hk
    | _ => cases hk
  | .list (a :: l), e, h, h', x, y, hx, hy, hh => by
    have hk := kd_eq h h' hh
    cases e with
    | list m =>
      cases m with
      | nil =>
        rw [sh_list0, sh_list] at hh
        simp only [simAll, sim, Bool.and_eq_true] at h
        obtain ⟨c, r, e1, _, n1, _⟩ := sh_kd h.1
        rw [e1] at hh
        simp at hh
        omega
      | cons b s =>
        rw [sh_list, sh_list] at hh
        simp only [simAll, sim, Bool.and_eq_true] at h h'
        have h1 := cons_cut hh
        rw [List.append_assoc, List.append_assoc] at h1
        obtain ⟨rfl, h2⟩ := sh_inj a b h.1 h'.1 _ _ (en_it (.inl rfl) l x) (en_it (.inl rfl) s y) h1
        obtain ⟨rfl, h3⟩ := it_inj 93 (.inl rfl) l s h.2 h'.2 x y h2
        exact ⟨rfl, h3⟩
    | bool b => cases b <;> cases hk
    | _ => cases hk
  | .tuple [], e, h, h', x, y, hx, hy, hh => by
    have hk := kd_eq h h' hh
    cases e with
    | tuple m =>
      match m, h', hh with
      | [], _, hh => exact ⟨rfl, List.append_cancel_left hh⟩
      | [b], h', hh =>
        rw [sh_tup0, sh_tup1] at hh
        simp only [simAll, sim, Bool.and_eq_true] at h'
        obtain ⟨c, r, e1, _, _, n1⟩ := sh_kd h'.1
        rw [e1] at hh
        simp at hh
        omega
      | b :: b2 :: s, h', hh =>
        rw [sh_tup0, sh_tup2] at hh
        simp only [simAll, sim, Bool.and_eq_true] at h'
        obtain ⟨c, r, e1, _, _, n1⟩ := sh_kd h'.1
        rw [e1] at hh
        simp at hh
        omega
    | bool b => cases b <;> cases hk
    | _ => cases hk
  | .tuple [a], e, h, h', x, y, hx, hy, hh => by
    have hk := kd_eq h h' hh
    cases e with
    | tuple m =>
      match m, h', hh with
      | [], _, hh =>
        rw [sh_tup0, sh_tup1] at hh
        simp only [simAll, sim, Bool.and_eq_true] at h
        obtain ⟨c, r, e1, _, _, n1⟩ := sh_kd h.1
        rw [e1] at hh
        simp at hh
        omega
      | [b], h', hh =>
        rw [sh_tup1, sh_tup1] at hh
        simp only [simAll, sim, Bool.and_eq_true] at h h'
        have h1 := cons_cut hh
        rw [List.append_assoc, List.append_assoc] at h1
        obtain ⟨rfl, h2⟩ := sh_inj a b h.1 h'.1 _ _ (.inr ⟨44, _, rfl, .inl rfl⟩) (.inr ⟨44, _, rfl, .inl rfl⟩) h1
        exact ⟨rfl, by simpa using h2⟩
      | b :: b2 :: s, h', hh =>
        rw [sh_tup1, sh_tup2] at hh
        simp only [simAll, sim, Bool.and_eq_true] at h h'
        have h1 := cons_cut hh
        rw [List.append_assoc, List.append_assoc] at h1
        obtain ⟨rfl, h2⟩ := sh_inj a b h.1 h'.1 _ _ (.inr ⟨44, _, rfl, .inl rfl⟩) (.inr ⟨44, _, rfl, .inl rfl⟩) h1
        simp [itE] at h2
    | bool b => cases b <;> cases hk
    | _ => cases hk
  | .tuple (a :: a2 :: l), e, h, h', x, y, hx, hy, hh => by
    have hk := kd_eq h h' hh
    cases e with
    | tuple m =>
      match m, h', hh with
      | [], _, hh =>
        rw [sh_tup0, sh_tup2] at hh
        simp only [simAll, sim, Bool.and_eq_true] at h
        obtain ⟨c, r, e1, _, _, n1⟩ := sh_kd h.1
        rw [e1] at hh
        simp at hh
        omega
      | [b], h', hh =>
        rw [sh_tup2, sh_tup1] at hh
        simp only [simAll, sim, Bool.and_eq_true] at h h'
        have h1 := cons_cut hh
        rw [List.append_assoc, List.append_assoc] at h1
        obtain ⟨rfl, h2⟩ := sh_inj a b h.1 h'.1 _ _ (.inr ⟨44, _, rfl, .inl rfl⟩) (.inr ⟨44, _, rfl, .inl rfl⟩) h1
        simp [itE] at h2
      | b :: b2 :: s, h', hh =>
        rw [sh_tup2, sh_tup2] at hh
        simp only [simAll, sim, Bool.and_eq_true] at h h'
        have h1 := cons_cut hh
        rw [List.append_assoc, List.append_assoc] at h1
        obtain ⟨rfl, h2⟩ := sh_inj a b h.1 h'.1 _ _ (en_it (.inr rfl) _ x) (en_it (.inr rfl) _ y) h1
        obtain ⟨h4, h3⟩ := it_inj 41 (.inr rfl) (a2 :: l) (b2 :: s) (by simp [simAll, h.2.1, h.2.2]) (by simp [simAll, h'.2.1, h'.2.2]) x y h2
        exact ⟨by rw [h4], h3⟩
    | bool b => cases b <;> cases hk
    | _ => cases hk
  | .dict _, _, h, _, _, _, _, _, _ => by cases h
theorem it_inj (c : Nat) (hc : c = 93 ∨ c = 41) : ∀ (l m : List PyData), simAll l = true → simAll m = true → ∀ x y : List Nat, itE c l ++ x = itE c m ++ y → l = m ∧ x = y
  | [], [], _, _, x, y, hh => ⟨rfl, List.append_cancel_left hh⟩
  | [], b :: s, _, _, x, y, hh => by
    simp [itE] at hh
    omega
  | a :: l, [], _, _, x, y, hh => by
    simp [itE] at hh
    omega
  | a :: l, b :: s, h, h', x, y, hh => by
    simp only [simAll, Bool.and_eq_true] at h h'
    have h1 : sh a ++ (itE c l ++ x) = sh b ++ (itE c s ++ y) := by
      have := cons_cut (cons_cut hh)
      rwa [List.append_assoc, List.append_assoc] at this
    obtain ⟨rfl, h2⟩ := sh_inj a b h.1 h'.1 _ _ (en_it hc l x) (en_it hc s y) h1
    obtain ⟨rfl, h3⟩ := it_inj c hc l s h.2 h'.2 x y h2
    exact ⟨rfl, h3⟩
end
theorem shown_inj {d e : PyData} (h : sim d = true) (h' : sim e = true) (hh : d.shown = e.shown) : d = e :=
  (sh_inj d e h h' [] [] (.inl rfl) (.inl rfl) (by show d.shown.cps.toList ++ [] = e.shown.cps.toList ++ []; rw [hh])).1
end Wm
namespace Wm
open PySem L2 PySem.Spec PySem.W PySem.SeqAt
open PyProof.Rows hiding St
theorem like_conc {rows more : List Row} (h : All2 RowLike rows more) : concF more = concF rows := by
  unfold concF
  induction h with
  | nil => rfl
  | @cons r s _ _ a _ ih =>
    rw [List.filter_cons, List.filter_cons, a.ab]
    cases r.abs
    · simp only [Bool.not_false, if_true, List.map_cons, ih, a.nm]
    · simpa using ih
theorem like_under {rows more : List Row} (h : All2 RowLike rows more) (n : Str) : underF more n = underF rows n := by
  unfold underF
  rw [like_conc h]
  congr 1
  funext o
  rw [like_line h]
theorem like_pairs {rows more : List Row} (h : All2 RowLike rows more) : ownPairs more = ownPairs rows := by
  unfold ownPairs
  induction h with
  | nil => rfl
  | @cons r s _ _ a _ ih =>
    rw [List.flatMap_cons, List.flatMap_cons, ih]
    congr 1
    have := congrArg (List.map (fun x : Str × Str => (r.name, x.1))) a.ow
    rw [List.map_map, List.map_map] at this
    rw [a.nm]
    exact this
theorem WkOk.like {rows more : List Row} {w : Wk} (h : All2 RowLike rows more) (k : WkOk rows w) : WkOk more w := { k with st := by rw [like_names h]; exact k.st, un := by rw [like_under h]; exact k.un, gs := by rw [like_names h]; exact k.gs, out := by rw [like_pairs h]; exact k.out, anew := by rw [like_pairs h]; exact k.anew }
def fldP (f : Fld) : PyData := .tuple [.str f.1, .str f.2.1, .str f.2.2]
def rowP (r : Row) : PyData := .tuple [.str r.name, .tuple (r.bases.map .str), .bool r.abs, .tuple (r.own.map fldP)]
def guP (x : Str × G5) : PyData := .tuple [.str x.1, .tuple (x.2.l.map .str)]
def keyP (rows : List Row) (wk : Wk) : PyData := .tuple [.list (rows.map rowP), .str wk.start, .list (wk.gs.map guP), .list (wk.out.map pairD), .list (wk.anew.map pairD), limD wk.lim, .bool wk.frees]
theorem map_injP {α β : Type} {f : α → β} (hf : ∀ x y, f x = f y → x = y) : ∀ {l m : List α}, l.map f = m.map f → l = m
  | [], [], _ => rfl
  | [], _ :: _, h => by cases h
  | _ :: _, [], h => by cases h
  | a :: l, b :: m, h => by
    rw [List.map_cons, List.map_cons] at h
    rw [hf a b (List.cons.inj h).1, map_injP hf (List.cons.inj h).2]
theorem strP_inj (x y : Str) (h : PyData.str x = PyData.str y) : x = y := PyData.str.inj h
theorem fldP_inj (f g : Fld) (h : fldP f = fldP g) : f = g := by
  obtain ⟨a, b, c⟩ := f
  obtain ⟨a', b', c'⟩ := g
  have h1 := List.cons.inj (PyData.tuple.inj h)
  have h2 := List.cons.inj h1.2
  have h3 := List.cons.inj h2.2
  cases PyData.str.inj h1.1
  cases PyData.str.inj h2.1
  cases PyData.str.inj h3.1
  rfl
theorem rowP_inj (r s : Row) (h : rowP r = rowP s) : r = s := by
  obtain ⟨a, b, c, d⟩ := r
  obtain ⟨a', b', c', d'⟩ := s
  have h1 := List.cons.inj (PyData.tuple.inj h)
  have h2 := List.cons.inj h1.2
  have h3 := List.cons.inj h2.2
  have h4 := List.cons.inj h3.2
  cases PyData.str.inj h1.1
  cases map_injP strP_inj (PyData.tuple.inj h2.1)
  cases PyData.bool.inj h3.1
  cases map_injP fldP_inj (PyData.tuple.inj h4.1)
  rfl
theorem guP_inj (x y : Str × G5) (h : guP x = guP y) : x = y := by
  obtain ⟨a, ⟨m, b, c, k, e⟩⟩ := x
  obtain ⟨a', ⟨m', b', c', k', e'⟩⟩ := y
  have h1 := List.cons.inj (PyData.tuple.inj h)
  have h2 := List.cons.inj h1.2
  cases PyData.str.inj h1.1
  have := map_injP strP_inj (PyData.tuple.inj h2.1)
  unfold G5.l at this
  cases this
  rfl
theorem pairD_inj (x y : Str × Str) (h : pairD x = pairD y) : x = y := by
  obtain ⟨a, b⟩ := x
  obtain ⟨a', b'⟩ := y
  have h1 := List.cons.inj (PyData.tuple.inj h)
  have h2 := List.cons.inj h1.2
  cases PyData.str.inj h1.1
  cases PyData.str.inj h2.1
  rfl
theorem limD_inj {x y : Option Nat} (h : limD x = limD y) : x = y := by
  cases x with
  | none => cases y with
    | none => rfl
    | some m => cases h
  | some n => cases y with
    | none => cases h
    | some m =>
      have := PyData.int.inj h
      have e : n = m := by omega
      rw [e]
theorem keyP_inj {rows rows' : List Row} {w w' : Wk} (h : keyP rows w = keyP rows' w') : rows = rows' ∧ w = w' := by
  obtain ⟨s, g, o, n, l, f⟩ := w
  obtain ⟨s', g', o', n', l', f'⟩ := w'
  have h1 := List.cons.inj (PyData.tuple.inj h)
  have h2 := List.cons.inj h1.2
  have h3 := List.cons.inj h2.2
  have h4 := List.cons.inj h3.2
  have h5 := List.cons.inj h4.2
  have h6 := List.cons.inj h5.2
  have h7 := List.cons.inj h6.2
  refine ⟨map_injP rowP_inj (PyData.list.inj h1.1), ?_⟩
  cases PyData.str.inj h2.1
  cases map_injP guP_inj (PyData.list.inj h3.1)
  cases map_injP pairD_inj (PyData.list.inj h4.1)
  cases map_injP pairD_inj (PyData.list.inj h5.1)
  cases limD_inj h6.1
  cases PyData.bool.inj h7.1
  rfl
theorem simAll_map {α : Type} (f : α → PyData) : ∀ (l : List α), (∀ x, x ∈ l → sim (f x) = true) → simAll (l.map f) = true
  | [], _ => rfl
  | a :: l, h => by
    rw [List.map_cons, simAll, h a (by simp), simAll_map f l fun x hx => h x (by simp [hx])]
    rfl
theorem low_ltr {l : List Nat} (h : l.all isLow = true) : l.all ltr = true := List.all_eq_true.mpr fun c hc => by
  have := List.all_eq_true.mp h c hc
  unfold isLow at this
  unfold ltr
  simp only [Bool.and_eq_true, Bool.or_eq_true, decide_eq_true_eq] at *
  omega
theorem field_ltr {x : Str} (h : fieldName x = true) : ltrs x = true := by
  unfold fieldName at h
  simp only [Bool.and_eq_true] at h
  exact low_ltr h.2.2.1
theorem kind_ltr {x : Str} (h : kindName x = true) : ltrs x = true := by
  unfold kindName at h
  simp only [Bool.and_eq_true, decide_eq_true_eq] at h
  obtain ⟨_, _, h3⟩ := h
  unfold ltrs
  generalize x.cps.toList = l at h3
  cases l with
  | nil => rfl
  | cons a r =>
    simp only [Bool.and_eq_true] at h3
    rw [List.all_cons, low_ltr h3.2]
    have := h3.1
    unfold isUp at this
    unfold ltr
    simp only [Bool.and_eq_true, Bool.or_eq_true, decide_eq_true_eq, Bool.and_true] at *
    omega
theorem list_ltr {ws : List Str} (h : ws.all ltrs = true) {x : Str} (hx : x ∈ ws) : ltrs x = true := List.all_eq_true.mp h x hx
theorem row_sim {rows : List Row} (hok : SchOk rows) {r : Row} (h : r ∈ rows) : sim (rowP r) = true := by
  obtain ⟨k, hk⟩ := List.mem_iff_getElem?.mp h
  have ro := hok.ok k r hk
  have h1 : simAll (r.bases.map PyData.str) = true := simAll_map _ _ fun b hb => by
    have hm := ro.bsub b hb
    have : b ∈ names rows := by
      unfold names at hm ⊢
      obtain ⟨x, hx, e⟩ := List.mem_map.mp hm
      exact List.mem_map.mpr ⟨x, List.mem_of_mem_take hx, e⟩
    rw [sim]
    exact kind_ltr (hok.ok.kn this)
  have h2 : simAll (r.own.map fldP) = true := simAll_map _ _ fun f hf => by
    obtain ⟨f1, f2, f3⟩ := ro.own f hf
    show sim (.tuple [.str f.1, .str f.2.1, .str f.2.2]) = true
    simp only [sim, simAll, Bool.and_true, Bool.and_eq_true]
    exact ⟨field_ltr f1, list_ltr (ws := MODESl) (by decide +kernel) f2, kind_ltr (hok.ok.kn f3)⟩
  show sim (.tuple [.str r.name, .tuple (r.bases.map .str), .bool r.abs, .tuple (r.own.map fldP)]) = true
  have hk := kind_ltr ro.nm
  simp [sim, simAll, h1, h2, hk]
theorem gu_sim {x : Str × G5} (h : kindName x.1 = true) (h5 : G5Ok x.2) : sim (guP x) = true := by
  have h2 : simAll (x.2.l.map PyData.str) = true := by
    show simAll [.str x.2.m, .str x.2.a, .str x.2.b, .str x.2.k, .str x.2.e] = true
    simp only [sim, simAll, Bool.and_true, Bool.and_eq_true]
    exact ⟨list_ltr (ws := MARKSl) (by decide +kernel) h5.m, list_ltr (ws := ACTSl) (by decide +kernel) h5.a, list_ltr (ws := BYl) (by decide +kernel) h5.b, list_ltr (ws := KEEPSl) (by decide +kernel) h5.k, list_ltr (ws := BYl) (by decide +kernel) h5.e⟩
  show sim (.tuple [.str x.1, .tuple (x.2.l.map .str)]) = true
  simp only [sim, simAll, Bool.and_true, Bool.and_eq_true, h2]
  exact kind_ltr h
theorem pair_sim {x : Str × Str} (h : kindName x.1 = true) (h2 : fieldName x.2 = true) : sim (pairD x) = true := by
  show sim (.tuple [.str x.1, .str x.2]) = true
  simp only [sim, simAll, Bool.and_true, Bool.and_eq_true]
  exact ⟨kind_ltr h, field_ltr h2⟩
theorem key_sim {rows : List Row} {wk : Wk} (hok : SchOk rows) (hw : WkOk rows wk) : sim (keyP rows wk) = true := by
  have hp := hw.pok hok
  have h1 := simAll_map rowP rows fun r hr => row_sim hok hr
  have h2 := simAll_map guP wk.gs fun x hx => gu_sim (hok.ok.kn (hp.gn x hx)) (hp.g5 x hx)
  have h3 := simAll_map pairD wk.out fun x hx => pair_sim (own_form hok (hp.on x hx)).1 (own_form hok (hp.on x hx)).2
  have h4 := simAll_map pairD wk.anew fun x hx => pair_sim (own_form hok (hp.nn x hx)).1 (own_form hok (hp.nn x hx)).2
  have h5 : sim (limD wk.lim) = true := by
    cases e : wk.lim with
    | none => rfl
    | some n =>
      have := hp.lim n e
      show sim (.int (n : Nat)) = true
      simp [sim]
      omega
  have hk := kind_ltr (hok.ok.kn hp.st)
  unfold keyP
  simp [sim, simAll, h1, h2, h3, h4, h5, hk]
mutual
def wt : PyData → Nat
  | .none => 4
  | .bool _ => 5
  | .int _ => 2
  | .str x => x.length + 2
  | .list xs => 2 + wtAll xs
  | .tuple xs => 3 + wtAll xs
  | .dict _ => 0
def wtAll : List PyData → Nat
  | [] => 0
  | x :: xs => wt x + 2 + wtAll xs
end
theorem int_wt {n : Nat} (h : n ≤ 99) : (sh (.int n)).length ≤ 2 := by
  have f : ((List.range 100).all fun n => decide ((sh (.int (n : Nat))).length ≤ 2)) = true := by decide +kernel
  simpa using List.all_eq_true.mp f n (List.mem_range.mpr (by omega))
mutual
theorem sh_wt : ∀ d : PyData, sim d = true → (sh d).length ≤ wt d
  | .none, _ => by decide +kernel
  | .bool true, _ => by decide +kernel
  | .bool false, _ => by decide +kernel
  | .int i, h => by
    obtain ⟨n, rfl, hn⟩ := int_sh h
    have := int_wt hn
    rwa [wt]
  | .str x, h => by
    show (PyData.shown (.str x)).cps.toList.length ≤ _
    rw [PyData.shown, repr_ltr h, wt]
    simp [Str.length]
  | .list [], _ => by
    rw [sh_list0]
    simp [wt, wtAll]
  | .list (a :: r), h => by
    simp only [sim, simAll, Bool.and_eq_true] at h
    have h1 := sh_wt a h.1
    have h2 := it_wt 93 r h.2
    rw [sh_list, wt, wtAll]
    simp only [List.length_cons, List.length_append]
    omega
  | .tuple [], _ => by
    rw [sh_tup0]
    simp [wt, wtAll]
  | .tuple [a], h => by
    simp only [sim, simAll, Bool.and_eq_true] at h
    have h1 := sh_wt a h.1
    rw [sh_tup1, wt, wtAll, wtAll]
    simp only [List.length_cons, List.length_append, List.length_nil]
    omega
  | .tuple (a :: b :: r), h => by
    simp only [sim, simAll, Bool.and_eq_true] at h
    have h1 := sh_wt a h.1
    have h2 := it_wt 41 (b :: r) (by simp [simAll, h.2.1, h.2.2])
    rw [sh_tup2, wt, wtAll]
    simp only [List.length_cons, List.length_append]
    omega
  | .dict _, h => by cases h
theorem it_wt (c : Nat) : ∀ l : List PyData, simAll l = true → (itE c l).length ≤ wtAll l + 1
  | [], _ => by simp [itE, wtAll]
  | a :: r, h => by
    simp only [simAll, Bool.and_eq_true] at h
    have h1 := sh_wt a h.1
    have h2 := it_wt c r h.2
    show (44 :: 32 :: (sh a ++ itE c r)).length ≤ _
    rw [wtAll]
    simp only [List.length_cons, List.length_append]
    omega
end
theorem wtAll_le {α : Type} (f : α → PyData) (k : Nat) : ∀ (l : List α), (∀ x, x ∈ l → wt (f x) ≤ k) → wtAll (l.map f) ≤ (k + 2) * l.length
  | [], _ => by simp [wtAll]
  | a :: l, h => by
    have h1 := h a (by simp)
    have h2 := wtAll_le f k l fun x hx => h x (by simp [hx])
    rw [List.map_cons, wtAll, List.length_cons, Nat.mul_succ]
    omega
theorem row_wt {rows : List Row} (hok : SchOk rows) {r : Row} (h : r ∈ rows) : wt (rowP r) ≤ 400 := by
  obtain ⟨k, hk⟩ := List.mem_iff_getElem?.mp h
  have ro := hok.ok k r hk
  have hn := kindName_len ro.nm
  have h1 := wtAll_le PyData.str 10 r.bases fun b hb => by
    have hm := ro.bsub b hb
    have : b ∈ names rows := by
      unfold names at hm ⊢
      obtain ⟨x, hx, e⟩ := List.mem_map.mp hm
      exact List.mem_map.mpr ⟨x, List.mem_of_mem_take hx, e⟩
    have := kindName_len (hok.ok.kn this)
    rw [wt]
    omega
  have h2 := wtAll_le fldP 50 r.own fun f hf => by
    obtain ⟨f1, f2, f3⟩ := ro.own f hf
    have l1 := fieldName_len f1
    have l3 := kindName_len (hok.ok.kn f3)
    have l2 : f.2.1.length ≤ 8 := by
      simpa using List.all_eq_true.mp (show (MODESl.all fun x => decide (x.length ≤ 8)) = true from by decide +kernel) _ f2
    show wt (.tuple [.str f.1, .str f.2.1, .str f.2.2]) ≤ 50
    simp only [wt, wtAll]
    omega
  have h3 := ro.blen
  have h4 := hok.ok.own_len h
  show wt (.tuple [.str r.name, .tuple (r.bases.map .str), .bool r.abs, .tuple (r.own.map fldP)]) ≤ 400
  simp only [wt, wtAll]
  omega
theorem gu_wt {x : Str × G5} (h : kindName x.1 = true) (h5 : G5Ok x.2) : wt (guP x) ≤ 200 := by
  have hn := kindName_len h
  have l := len10 h5
  show wt (.tuple [.str x.1, .tuple [.str x.2.m, .str x.2.a, .str x.2.b, .str x.2.k, .str x.2.e]]) ≤ 200
  simp only [wt, wtAll]
  omega
theorem pair_wt {x : Str × Str} (h : kindName x.1 = true) (h2 : fieldName x.2 = true) : wt (pairD x) ≤ 40 := by
  have l1 := kindName_len h
  have l2 := fieldName_len h2
  show wt (.tuple [.str x.1, .str x.2]) ≤ 40
  simp only [wt, wtAll]
  omega
theorem key_len {rows : List Row} {wk : Wk} (hok : SchOk rows) (hw : WkOk rows wk) : (keyP rows wk).shown.length ≤ sizeLine := by
  have hp := hw.pok hok
  obtain ⟨lg, lo, ln⟩ := hp.lens hok
  have h1 := wtAll_le rowP 400 rows fun r hr => row_wt hok hr
  have h2 := wtAll_le guP 200 wk.gs fun x hx => gu_wt (hok.ok.kn (hp.gn x hx)) (hp.g5 x hx)
  have h3 := wtAll_le pairD 40 wk.out fun x hx => pair_wt (own_form hok (hp.on x hx)).1 (own_form hok (hp.on x hx)).2
  have h4 := wtAll_le pairD 40 wk.anew fun x hx => pair_wt (own_form hok (hp.nn x hx)).1 (own_form hok (hp.nn x hx)).2
  have h5 : wt (limD wk.lim) ≤ 4 := by
    cases wk.lim with
    | none => exact Nat.le_refl 4
    | some n => exact (by decide : 2 ≤ 4)
  have hk := kindName_len (hok.ok.kn hp.st)
  have hf := hok.few
  have hs := sh_wt _ (key_sim hok hw)
  have e : (keyP rows wk).shown.length = (sh (keyP rows wk)).length := by simp [sh, Str.length]
  have ew : wt (keyP rows wk) = 3 + (2 + wtAll (rows.map rowP) + 2 + (wk.start.length + 2 + 2 + (2 + wtAll (wk.gs.map guP) + 2 + (2 + wtAll (wk.out.map pairD) + 2 + (2 + wtAll (wk.anew.map pairD) + 2 + (wt (limD wk.lim) + 2 + (5 + 2 + 0))))))) := by
    unfold keyP
    simp only [wt, wtAll]
  rw [e, sizeLine_eq]
  omega
theorem key_eq {rows rows' : List Row} {w w' : Wk} (h1 : SchOk rows) (h2 : WkOk rows w) (h3 : SchOk rows') (h4 : WkOk rows' w') : (keyP rows w).shown = (keyP rows' w').shown ↔ rows = rows' ∧ w = w' :=
  ⟨fun h => keyP_inj (shown_inj (key_sim h1 h2) (key_sim h3 h4) h), fun ⟨a, b⟩ => by rw [a, b]⟩
end Wm
namespace Wm
open PySem L2 PySem.Spec PySem.W PySem.SeqAt
open PyProof.Rows hiding St
theorem dec_cons {α : Type} [DecidableEq α] (a b : α) (l m : List α) : (decide (a = b) && decide (l = m)) = decide (a :: l = b :: m) := by
  by_cases h1 : a = b <;> by_cases h2 : l = m <;> simp [h1, h2]
theorem eqv_strs (a b : Str) : PyData.eqv (.str a) (.str b) = decide (a = b) := Datum.eqv a b
theorem gfs_inj {g g' : G5} (h : gfs g.l = gfs g'.l) : g = g' := by
  obtain ⟨m, b, c, k, e⟩ := g
  obtain ⟨m', b', c', k', e'⟩ := g'
  unfold gfs G5.l at h
  simp only [List.cons.injEq, Prod.mk.injEq, V.str.injEq, true_and, and_true] at h
  obtain ⟨rfl, rfl, rfl, rfl, rfl⟩ := h
  rfl
theorem l_inj {x y : G5} (h : x.l = y.l) : x = y := gfs_inj (by rw [h])
instance : DecidableEq G5 := fun x y => decidable_of_iff (x.l = y.l) ⟨l_inj, fun h => by rw [h]⟩
section
variable {X : Cx} {CX : CXT} {CG CW f : Addr} {fd : FuncData} {ps : List Str}
theorem vk_guardsB (F : FnOk X.prog X.w X.K X.mg X.base CX 2 f fd ps (spEqG CG)) (ncx : ∀ outer H s e s', CX outer H s (fun _ _ _ => False) e s' → False) (room : Room 2 X.A.in1.in1.in1) (hm : Meth X.K CG "__eq__" f) (hb : L2.Binds X.K fd ps []) (ow : OwnC X.K CG) (nf : PySem.W.notFirst X.K CG (.ref CG) = true)
    {H : Hp} : ∀ {gs gs' : List (Str × G5)} {xs ys : List V}, All2 (GRowAt CG H) gs xs → All2 (GRowAt CG H) gs' ys → PB (fun v y b => VKB X X.A.in1.in1 H v y b) xs ys (decide (gs = gs'))
  | _, _, _, _, .nil, .nil => by
    rw [show decide (([] : List (Str × G5)) = []) = true from by simp]
    exact .nil
  | _, _, _, _, .nil, .cons (a := g) (l := t) h2 t2 => by
    rw [show decide (([] : List (Str × G5)) = g :: t) = false from by simp]
    exact .left
  | _, _, _, _, .cons (a := g) (l := t) h1 t1, .nil => by
    rw [show decide (g :: t = ([] : List (Str × G5))) = false from by simp]
    exact .right
  | _, _, _, _, .cons (a := g) (l := t) h1 t1, .cons (a := g') (l := t') h2 t2 => by
    have hun := room.un
    have e3 : X.A.in1.in1.in1.units = X.A.units + 3 := rfl
    have e2' : X.A.in1.in1.units = X.A.units + 2 := rfl
    obtain ⟨r1, g1, rfl, e1, a1, d1, rfl, f1⟩ := h1
    obtain ⟨r2, g2, rfl, e2, a2, d2, rfl, f2⟩ := h2
    rw [← dec_cons]
    have hgu : a1 = a2 → g.2 = g'.2 := fun z => by
      subst z
      rw [f1] at f2
      injection f2 with f3
      injection f3 with _ _ f4
      exact gfs_inj f4
    have ec : decide (g = g') = (PyData.eqv (.str g.1) (.str g'.1) && (decide (g.2.l = g'.2.l) && true)) := by
      rw [eqv_strs, Bool.and_true]
      by_cases h1 : g.1 = g'.1
      · by_cases h2 : g.2 = g'.2
        · have : g = g' := Prod.ext h1 h2
          simp [this]
        · have n1 : g ≠ g' := fun z => h2 (by rw [z])
          have n2 : g.2.l ≠ g'.2.l := fun z => h2 (gfs_inj (by rw [z]))
          simp [n1, n2]
      · have n1 : g ≠ g' := fun z => h1 (by rw [z])
        simp [n1, h1]
    refine .cons ?_ (vk_guardsB F ncx room hm hb ow nf t1 t2)
    rw [ec]
    refine VKB.tuple (.of e1) (.of e2) (by omega) (fun z w => ?_) (.cons (VKB.plain (.str g.1) (.str g'.1) rfl rfl (by simp only [PyData.depth]; omega) (fun _ _ _ s h => dp_same s h)) (.cons ?_ .nil))
    · subst w
      rw [e1] at e2
      injection e2 with e4
      injection e4 with e5
      injection e5 with e6 e7
      injection e6 with e8
      injection e7 with e9 _
      injection e9 with e10
      rw [← ec, decide_eq_false_iff_not] at z
      exact z (Prod.ext e8 (hgu e10))
    · refine VKB.own (c := decide (g.2.l = g'.2.l)) (fun z w => ?_) F ncx room rfl hm hb f1 (fun H' s => ow.ty (s _ _ f2)) nf (fun H' s => ?_)
      · rw [decide_eq_false_iff_not] at z
        exact z (by rw [hgu w])
      · exact ⟨a1, d1, _, _, _, _, _, _, rfl, s _ _ f1, .inl ⟨a2, d2, _, _, _, _, _, rfl, s _ _ f2, rfl, Same.refl _⟩⟩
def bsK (w w' : Wk) (k : Key) : Bool :=
  if k = .inr "start" then decide (w.start = w'.start) else if k = .inr "guards" then decide (w.gs = w'.gs) else if k = .inr "out" then decide (w.out = w'.out) else if k = .inr "anew" then decide (w.anew = w'.anew) else if k = .inr "limit" then decide (w.lim = w'.lim) else decide (w.frees = w'.frees)
theorem bs_all {w w' : Wk} {s g o n l : V} {f : Bool} : w = w' ↔ ∀ k v, (k, v) ∈ pkvs s g o n l f → bsK w w' k = true := by
  constructor
  · intro h k v hk
    subst h
    simp only [pkvs, List.mem_cons, List.not_mem_nil, or_false, Prod.mk.injEq] at hk
    rcases hk with ⟨rfl, _⟩ | ⟨rfl, _⟩ | ⟨rfl, _⟩ | ⟨rfl, _⟩ | ⟨rfl, _⟩ | ⟨rfl, _⟩ <;> simp [bsK]
  · intro h
    have h1 := h (.inr "start") s (by simp [pkvs])
    have h2 := h (.inr "guards") g (by simp [pkvs])
    have h3 := h (.inr "out") o (by simp [pkvs])
    have h4 := h (.inr "anew") n (by simp [pkvs])
    have h5 := h (.inr "limit") l (by simp [pkvs])
    have h6 := h (.inr "frees") (.bl f) (by simp [pkvs])
    obtain ⟨a, b, c, d, e, k⟩ := w
    obtain ⟨a', b', c', d', e', k'⟩ := w'
    have i1 : decide (a = a') = true := h1
    have i2 : decide (b = b') = true := h2
    have i3 : decide (c = c') = true := h3
    have i4 : decide (d = d') = true := h4
    have i5 : decide (e = e') = true := h5
    have i6 : decide (k = k') = true := h6
    simp only [decide_eq_true_eq] at i1 i2 i3 i4 i5 i6
    subst i1 i2 i3 i4 i5 i6
    rfl
theorem eqv_pairs (l m : List (Str × Str)) : PyData.eqv (.tuple (l.map pairD)) (.tuple (m.map pairD)) = decide (l = m) := by
  have h := Datum.eqv (Tup.mk l) (Tup.mk m)
  have e : ∀ l : List (Str × Str), Datum.toD (Tup.mk l) = .tuple (l.map pairD) := fun l => rfl
  rw [e, e] at h
  rw [h]
  by_cases z : l = m
  · simp [z]
  · simp [z]
theorem vk_partsB (F : FnOk X.prog X.w X.K X.mg X.base CX 2 f fd ps (spEqG CG)) (ncx : ∀ outer H s e s', CX outer H s (fun _ _ _ => False) e s' → False) (room : Room 2 X.A.in1.in1.in1) (hm : Meth X.K CG "__eq__" f) (hb : L2.Binds X.K fd ps []) (ow : OwnC X.K CG) (nf : PySem.W.notFirst X.K CG (.ref CG) = true)
    {H : Hp} {S S' a a' dx gt ot nt dx' gt' ot' nt' : Addr} {w w' : Wk} {gvs ovs nvs gvs' ovs' nvs' : List V} (i : WkrIn CW CG H S w a dx gt ot nt gvs ovs nvs) (j : WkrIn CW CG H S' w' a' dx' gt' ot' nt' gvs' ovs' nvs') (hgt : gt = gt' → w.gs = w'.gs) :
    ∀ k v, (k, v) ∈ pkvs (.str w.start) (.ref gt) (.ref ot) (.ref nt) (limV w.lim) w.frees → ∃ y, valV (pkvs (.str w'.start) (.ref gt') (.ref ot') (.ref nt') (limV w'.lim) w'.frees) k = some y ∧ VKB X X.A.in1 H v y (bsK w w' k) := by
  intro k v hk
  have hun := room.un
  have hu1 : X.A.in1.units + 64 < cLine := by
    have e : X.A.in1.in1.in1.units = X.A.in1.units + 1 + 1 := rfl
    omega
  have pl : ∀ {v y : V} {d e : PyData}, Dp X.K H v d → Dp X.K H y e → d.plain = true → e.plain = true → d.depth ≤ 60 → VKB X X.A.in1 H v y (PyData.eqv d e) := fun h1 h2 p p' q => VKB.plain h1 h2 p p' (by omega) (fun _ _ _ s h => dp_same s h)
  have pairs : ∀ {p q : Addr} {l m : List (Str × Str)} {xs ys : List V}, H p = some (.tup xs) → H q = some (.tup ys) → All2 (PairAt H) l xs → All2 (PairAt H) m ys → VKB X X.A.in1 H (.ref p) (.ref q) (decide (l = m)) := fun {p q l m xs ys} h1 h2 p1 p2 => by
    rw [← eqv_pairs]
    exact pl (.tup (.of h1) (dps_pairD p1)) (.tup (.of h2) (dps_pairD p2)) (by rw [PyData.plain]; exact pairs_plain l) (by rw [PyData.plain]; exact pairs_plain m) (by have := pairs_depth l; rw [PyData.depth]; omega)
  simp only [pkvs, List.mem_cons, List.not_mem_nil, or_false, Prod.mk.injEq] at hk
  rcases hk with ⟨rfl, rfl⟩ | ⟨rfl, rfl⟩ | ⟨rfl, rfl⟩ | ⟨rfl, rfl⟩ | ⟨rfl, rfl⟩ | ⟨rfl, rfl⟩
  · refine ⟨_, rfl, ?_⟩
    show VKB X X.A.in1 H _ _ (decide (w.start = w'.start))
    rw [← eqv_strs]
    exact pl (.str _) (.str _) rfl rfl (by simp [PyData.depth])
  · refine ⟨_, rfl, ?_⟩
    show VKB X X.A.in1 H _ _ (decide (w.gs = w'.gs))
    exact VKB.tuple i.gat.sq j.gat.sq (by omega) (fun z e => by
      rw [decide_eq_false_iff_not] at z
      exact z (hgt e)) (vk_guardsB F ncx room hm hb ow nf i.g j.g)
  · exact ⟨_, rfl, pairs i.oat j.oat i.o j.o⟩
  · exact ⟨_, rfl, pairs i.nat j.nat i.n j.n⟩
  · refine ⟨_, rfl, ?_⟩
    show VKB X X.A.in1 H _ _ (decide (w.lim = w'.lim))
    cases e1 : w.lim with
    | none => cases e2 : w'.lim with
      | none => exact pl .non .non rfl rfl (by simp [PyData.depth])
      | some m => exact pl (e := .int (m : Nat)) .non (.int _) rfl rfl (by simp [PyData.depth])
    | some n => cases e2 : w'.lim with
      | none => exact pl (d := .int (n : Nat)) (.int _) .non rfl rfl (by simp [PyData.depth])
      | some m =>
        have := pl (d := .int (n : Nat)) (e := .int (m : Nat)) (.int _) (.int _) rfl rfl (by simp [PyData.depth])
        rwa [show PyData.eqv (.int (n : Nat)) (.int (m : Nat)) = decide (some n = some m) from by
          rw [show PyData.eqv (.int (n : Nat)) (.int (m : Nat)) = decide (((n : Nat) : Int) = (m : Nat)) from Datum.eqv (n : Int) (m : Int)]
          by_cases z : n = m
          · simp [z]
          · have z2 : ¬ ((n : Nat) : Int) = (m : Nat) := fun y => z (by omega)
            simp [z, z2]] at this
  · refine ⟨_, rfl, ?_⟩
    show VKB X X.A.in1 H _ _ (decide (w.frees = w'.frees))
    have := pl (d := .bool w.frees) (e := .bool w'.frees) (.bl _) (.bl _) rfl rfl (by simp [PyData.depth])
    rwa [show PyData.eqv (.bool w.frees) (.bool w'.frees) = decide (w.frees = w'.frees) from Datum.eqv w.frees w'.frees] at this
end
theorem wk_ext {x y : Wk} (h : x.start = y.start ∧ x.gs = y.gs ∧ x.out = y.out ∧ x.anew = y.anew ∧ x.lim = y.lim ∧ x.frees = y.frees) : x = y := by
  obtain ⟨h1, h2, h3, h4, h5, h6⟩ := h
  obtain ⟨a, b, c, d, e, k⟩ := x
  obtain ⟨a', b', c', d', e', k'⟩ := y
  simp only at h1 h2 h3 h4 h5 h6
  subst h1 h2 h3 h4 h5 h6
  rfl
instance : DecidableEq Wk := fun x y => decidable_of_iff (x.start = y.start ∧ x.gs = y.gs ∧ x.out = y.out ∧ x.anew = y.anew ∧ x.lim = y.lim ∧ x.frees = y.frees) ⟨wk_ext, fun h => by rw [h]; exact ⟨rfl, rfl, rfl, rfl, rfl, rfl⟩⟩
theorem grow_inj {CG : Addr} {H : Hp} {x y : Str × G5} {v : V} (h : GRowAt CG H x v) (h' : GRowAt CG H y v) : x = y := by
  obtain ⟨r1, g1, rfl, e1, a1, d1, rfl, f1⟩ := h
  obtain ⟨r2, g2, z, e2, a2, d2, rfl, f2⟩ := h'
  cases z
  rw [e1] at e2
  injection e2 with e4
  injection e4 with e5
  injection e5 with e6 e7
  injection e6 with e8
  injection e7 with e9 _
  injection e9 with e10
  subst e10
  rw [f1] at f2
  injection f2 with f3
  injection f3 with _ _ f4
  exact Prod.ext e8 (gfs_inj f4)
theorem all2_inj {α : Type} {R : α → V → Prop} (hR : ∀ x y v, R x v → R y v → x = y) : ∀ {l m : List α} {vs : List V}, All2 R l vs → All2 R m vs → l = m
  | _, _, _, .nil, .nil => rfl
  | _, _, _, .cons h t, .cons h' t' => by rw [hR _ _ _ h h', all2_inj hR t t']
theorem gt_inj {CG gt : Addr} {H : Hp} {gs gs' : List (Str × G5)} {xs ys : List V} (h : Frt H gt xs) (hx : All2 (GRowAt CG H) gs xs) (h' : Frt H gt ys) (hy : All2 (GRowAt CG H) gs' ys) : gs = gs' := by
  obtain ⟨og, _, e1⟩ := h
  obtain ⟨og', _, e2⟩ := h'
  rw [e1] at e2
  injection e2 with e3
  injection e3 with _ e4
  injection e4 with e5
  subst e5
  exact all2_inj (R := GRowAt CG H) (fun _ _ _ a b => grow_inj a b) hx hy
section
variable {K : PySem.W.Frag} {H : Hp}
theorem dps_map {α : Type} {R : α → V → Prop} {g : α → PyData} (hR : ∀ a v, R a v → Dp K H v (g a)) : ∀ {l : List α} {vs : List V}, All2 R l vs → DpAll K H vs (l.map g)
  | _, _, .nil => .nil
  | _, _, .cons h r => .cons (hR _ _ h) (dps_map hR r)
theorem dps_strP : ∀ (l : List Str), DpAll K H (l.map V.str) (l.map PyData.str)
  | [] => .nil
  | a :: l => .cons (.str a) (dps_strP l)
theorem dp_fldP {f : Fld} {v : V} (h : FldAt H f v) : Dp K H v (fldP f) := by
  obtain ⟨a, rfl, e⟩ := h
  exact .tup (.of e) (.cons (.str _) (.cons (.str _) (.cons (.str _) .nil)))
theorem dp_rowP {r : Row} {v : V} (h : RowAt H r v) : Dp K H v (rowP r) := by
  obtain ⟨a, bv, ov, rfl, e, ⟨b, rfl, hb⟩, ⟨o, vs, rfl, eo, ho⟩⟩ := h
  exact .tup (.of e) (.cons (.str _) (.cons (.tup (.of hb) (dps_strP _)) (.cons (.bl _) (.cons (.tup (.of eo) (dps_map (g := fldP) (R := FldAt H) (fun _ _ => dp_fldP) ho)) .nil))))
theorem dp_guP {x : Str × G5} {v : V} (h : G5Row H x v) : Dp K H v (guP x) := by
  obtain ⟨r, t, rfl, e1, e2⟩ := h
  exact .tup (.of e1) (.cons (.str _) (.cons (.tup (.of e2) (dps_strP _)) .nil))
theorem dp_key {q : Addr} {L gl ol al : Addr} {rows : List Row} {w : Wk} {rvs gvs ovs avs : List V} (e : H q = some (.tup [.ref L, .str w.start, .ref gl, .ref ol, .ref al, limV w.lim, .bl w.frees])) (eL : H L = some (.lst rvs)) (hr : All2 (RowAt H) rows rvs) (eg : H gl = some (.lst gvs)) (hg : All2 (G5Row H) w.gs gvs)
    (eo : H ol = some (.lst ovs)) (ho : All2 (PairAt H) w.out ovs) (ea : H al = some (.lst avs)) (ha : All2 (PairAt H) w.anew avs) : Dp K H (.ref q) (keyP rows w) := by
  refine .tup (.of e) (.cons (.lst (.of eL) (dps_map (g := rowP) (R := RowAt H) (fun _ _ => dp_rowP) hr)) (.cons (.str _) (.cons (.lst (.of eg) (dps_map (g := guP) (R := G5Row H) (fun _ _ => dp_guP) hg)) (.cons (.lst (.of eo) (dps_pairD ho)) (.cons (.lst (.of ea) (dps_pairD ha)) (.cons ?_ (.cons (.bl _) .nil)))))))
  cases w.lim with
  | none => exact .non
  | some n => exact .int _
end
mutual
theorem sim_show : ∀ d : PyData, sim d = true → d.showable = true ∧ d.hasDict = false
  | .none, _ => ⟨rfl, rfl⟩
  | .bool _, _ => ⟨rfl, rfl⟩
  | .int i, h => by
    obtain ⟨n, rfl, hn⟩ := int_sh h
    have f : ((List.range 100).all fun n => decide ((n : Int).natAbs.log2 < 1920)) = true := by decide +kernel
    have := List.all_eq_true.mp f n (List.mem_range.mpr (by omega))
    exact ⟨by rw [PyData.showable]; exact this, rfl⟩
  | .str _, _ => ⟨rfl, rfl⟩
  | .list xs, h => by
    rw [sim] at h
    have := simAll_show xs h
    exact ⟨by rw [PyData.showable]; exact this.1, by rw [PyData.hasDict]; exact this.2⟩
  | .tuple xs, h => by
    rw [sim] at h
    have := simAll_show xs h
    exact ⟨by rw [PyData.showable]; exact this.1, by rw [PyData.hasDict]; exact this.2⟩
  | .dict _, h => by cases h
theorem simAll_show : ∀ l : List PyData, simAll l = true → PyData.showableAll l = true ∧ PyData.hasDictAll l = false
  | [], _ => ⟨rfl, rfl⟩
  | a :: l, h => by
    rw [simAll, Bool.and_eq_true] at h
    have h1 := sim_show a h.1
    have h2 := simAll_show l h.2
    rw [PyData.showableAll, PyData.hasDictAll, h1.1, h1.2, h2.1, h2.2]
    exact ⟨rfl, rfl⟩
end
theorem depthAll_le {α : Type} (f : α → PyData) (k : Nat) : ∀ (l : List α), (∀ x, (f x).depth ≤ k) → PyData.depthAll (l.map f) ≤ k
  | [], _ => by simp [PyData.depthAll]
  | a :: l, h => by
    have h1 := h a
    have h2 := depthAll_le f k l h
    rw [List.map_cons, PyData.depthAll]
    omega
theorem key_depth (rows : List Row) (w : Wk) : (keyP rows w).depth ≤ 60 := by
  have hs : ∀ l : List Str, PyData.depthAll (l.map PyData.str) ≤ 1 := fun l => depthAll_le _ 1 l fun x => by simp [PyData.depth]
  have hf : ∀ f : Fld, (fldP f).depth ≤ 2 := fun f => by simp [fldP, PyData.depth, PyData.depthAll]
  have hp : ∀ x : Str × Str, (pairD x).depth ≤ 2 := fun x => by simp [pairD, PyData.depth, PyData.depthAll]
  have hr : ∀ r : Row, (rowP r).depth ≤ 10 := fun r => by
    have h1 := hs r.bases
    have h2 := depthAll_le fldP 2 r.own hf
    simp only [rowP, PyData.depth, PyData.depthAll]
    omega
  have hg : ∀ x : Str × G5, (guP x).depth ≤ 10 := fun x => by
    have h1 := hs x.2.l
    simp only [guP, PyData.depth, PyData.depthAll]
    omega
  have h1 := depthAll_le rowP 10 rows hr
  have h2 := depthAll_le guP 10 w.gs hg
  have h3 := depthAll_le pairD 2 w.out hp
  have h4 := depthAll_le pairD 2 w.anew hp
  have h5 : (limD w.lim).depth ≤ 1 := by cases w.lim <;> simp [limD, PyData.depth]
  unfold keyP
  simp only [PyData.depth, PyData.depthAll]
  omega
theorem r_notInPair {K : PySem.W.Frag} {H : Hp} {Q : L2.VK} {t a : Addr} {x : Str × Str} {l : List (Str × Str)} {xs : List V} (et : H t = some (.tup [.str x.1, .str x.2])) (ea : H a = some (.lst xs)) (hl : All2 (PairAt H) l xs) (q : Q (.bl (!decide (x ∈ l))) H) : rInP K true (.ref t) (.ref a) H Q := by
  refine ⟨a, xs, pairD x, l.map pairD, rfl, .inl (.of ea), .tup (.of et) (.cons (.str _) (.cons (.str _) .nil)), dps_pairD hl, by simp [pairD, PyData.plain, PyData.plainAll], pairs_plain l, by simp [pairD, PyData.depth, PyData.depthAll], ?_⟩
  rw [if_pos rfl]
  have := dataIn_typed l x
  have e : l.map Datum.toD = l.map pairD := rfl
  rw [e] at this
  have e3 : dataIn (l.map pairD) (pairD x) = decide (x ∈ l) := by
    refine Eq.trans this ?_
    by_cases h : x ∈ l <;> simp [h]
  rw [e3]
  exact q
theorem guards_no {rows : List Row} {H : Hp} {gs : List (Str × G5)} {gvs : List (Key × V)} (hok : SchOk rows) (hn : ∀ x, x ∈ gs → x.1 ∈ names rows) (h : All2 (GPairAt H) gs gvs) {a b c : Addr} {l s : V} {f : Bool} : gvs ≠ wkvs a b c l f s := fun z => by
  subst z
  match gs, h, hn with
  | x :: _, .cons h1 _, hn =>
    have e2 : x.1 = "guards" := (Sum.inr.inj h1.1).symm
    have := hok.ok.kn (hn x (by simp))
    rw [e2] at this
    revert this
    decide +kernel
section
variable {C D : Addr} {H H' : Hp} {rows : List Row} {xs : List V}
theorem KndAt.butL {r : Row} {v : V} (h : KndAt C H rows r v) (e : H D = some (.lst xs)) (s : But D H H') : KndAt C H' rows r v := by
  obtain ⟨a, dx, bv, ov, la, fa, fvs, rfl, i⟩ := h
  have k : ∀ {b : Addr} {o : HO}, H b = some o → (∀ ys, o ≠ .lst ys) → H' b = some o := fun hb n => s _ _ (fun z => by
    rw [z, e] at hb
    cases hb
    exact n _ rfl) hb
  have t : Tx H H' := fun b ys hb => k hb (fun _ z => by cases z)
  exact ⟨a, dx, bv, ov, la, fa, fvs, rfl, k i.at_ (fun _ z => by cases z), i.bs.tx t, i.own.tx t, t _ _ i.line, t _ _ i.flds, all2_f4 i.f4 t⟩
theorem SchAt.hid {CS S : Addr} (h : SchAt C CS H rows S) (e : H D = some (.lst xs)) : SchAt C CS (Wm.hid D H) rows S := by
  obtain ⟨dx, rv, nv, dv, rvs, kvs, i⟩ := h
  have s : But D H (Wm.hid D H) := fun _ _ n hb => hid_at n hb
  have k : ∀ {b : Addr} {o : HO}, H b = some o → (∀ ys, o ≠ .lst ys) → (Wm.hid D H) b = some o := fun hb n => s _ _ (fun z => by
    rw [z, e] at hb
    cases hb
    exact n _ rfl) hb
  have t : Tx H (Wm.hid D H) := fun b ys hb => k hb (fun _ z => by cases z)
  refine ⟨dx, rv, nv, dv, rvs, kvs, k i.at_ (fun _ z => by cases z), t _ _ i.rws, all2_rows i.rall t, t _ _ i.nms, k i.kn.at_ (fun _ z => by cases z), i.kn.keys, fun r hr => ?_⟩
  obtain ⟨v, h1, h2⟩ := i.kn.knd r hr
  exact ⟨v, h1, h2.butL e s⟩
end
section
variable {C D CW CG : Addr} {H H' : Hp}
theorem fld_inj {f g : Fld} {v : V} (h : FldAt H f v) (h' : FldAt H g v) : f = g := by
  obtain ⟨a, rfl, e⟩ := h
  obtain ⟨b, z, e'⟩ := h'
  cases z
  rw [e] at e'
  obtain ⟨a, b, c⟩ := f
  obtain ⟨a', b', c'⟩ := g
  cases e'
  rfl
theorem pair_inj {x y : Str × Str} {v : V} (h : PairAt H x v) (h' : PairAt H y v) : x = y := by
  obtain ⟨a, rfl, e⟩ := h
  obtain ⟨b, z, e'⟩ := h'
  cases z
  rw [e] at e'
  obtain ⟨a, b⟩ := x
  obtain ⟨a', b'⟩ := y
  cases e'
  rfl
theorem row_inj {r s : Row} {v : V} (h : RowAt H r v) (h' : RowAt H s v) : r = s := by
  obtain ⟨a, bv, ov, rfl, e, ⟨b, rfl, hb⟩, ⟨o, vs, rfl, eo, ho⟩⟩ := h
  obtain ⟨a', bv', ov', z, e', ⟨b', rfl, hb'⟩, ⟨o', vs', rfl, eo', ho'⟩⟩ := h'
  cases z
  rw [e] at e'
  obtain ⟨n, bs, ab, ow⟩ := r
  obtain ⟨n', bs', ab', ow'⟩ := s
  injection e' with e1
  injection e1 with e2
  injection e2 with e3 e4
  injection e3 with e5
  injection e4 with e6 e7
  injection e6 with e8
  injection e7 with e9 e10
  injection e9 with e11
  injection e10 with e12 _
  injection e12 with e13
  subst e8 e13
  rw [hb] at hb'
  rw [eo] at eo'
  have i1 := HO.tup.inj (Option.some.inj hb')
  have i2 := HO.tup.inj (Option.some.inj eo')
  subst i2
  have i3 := all2_inj (R := FldAt H) (fun _ _ _ a b => fld_inj a b) ho ho'
  have i4 : bs = bs' := map_injP (fun x y h => V.str.inj h) i1
  simp only at e5 e11 i3
  subst e5 e11 i3 i4
  rfl
theorem sch_inj {rows rows' : List Row} {S : Addr} (h : SchAt C D H rows S) (h' : SchAt C D H rows' S) : rows = rows' := by
  obtain ⟨dx, rv, nv, dv, rvs, kvs, i⟩ := h
  obtain ⟨dx', rv', nv', dv', rvs', kvs', i'⟩ := h'
  have e := i.at_
  rw [i'.at_] at e
  unfold sfs at e
  cases e
  have e2 := i.rws
  rw [i'.rws] at e2
  cases e2
  exact all2_inj (R := RowAt H) (fun _ _ _ a b => row_inj a b) i.rall i'.rall
theorem mk_inj {S S' m : Addr} {w w' : Wk} {rows rows' : List Row} (h : WkrAt CW CG H S w m) (h' : WkrAt CW CG H S' w' m) (k : SchAt C D H rows S) (k' : SchAt C D H rows' S') : rows = rows' ∧ w = w' := by
  obtain ⟨dx, gt, ot, nt, gvs, ovs, nvs, i⟩ := h
  obtain ⟨dx', gt', ot', nt', gvs', ovs', nvs', i'⟩ := h'
  have e := i.at_
  rw [i'.at_] at e
  have e1 := HO.ins.inj (Option.some.inj e)
  obtain ⟨_, _, e2⟩ := e1
  unfold wfs at e2
  simp only [List.cons.injEq, Prod.mk.injEq, V.ref.injEq, V.str.injEq, V.bl.injEq, true_and, and_true] at e2
  obtain ⟨rfl, e3, rfl, rfl, rfl, e4, e5⟩ := e2
  refine ⟨sch_inj k k', wk_ext ⟨e3.symm, gt_inj i.gat i.g i'.gat i'.g, ?_, ?_, ?_, e5.symm⟩⟩
  · have := i.oat
    rw [i'.oat] at this
    cases this
    exact all2_inj (R := PairAt H) (fun _ _ _ a b => pair_inj a b) i.o i'.o
  · have := i.nat
    rw [i'.nat] at this
    cases this
    exact all2_inj (R := PairAt H) (fun _ _ _ a b => pair_inj a b) i.n i'.n
  · cases h1 : w.lim with
    | none => cases h2 : w'.lim with
      | none => rfl
      | some n => rw [h1, h2] at e4; cases e4
    | some n => cases h2 : w'.lim with
      | none => rw [h1, h2] at e4; cases e4
      | some m =>
        rw [h1, h2] at e4
        have := V.int.inj e4
        congr 1
        omega
end
theorem WkAt.putL {H : Hp} {w : Wk} {W p q t x : Addr} {y : V} {r ys : List V} (h : WkAt H w W p) (e : H q = some (.lst (.ref t :: r))) (et : H t = some (.tup [.ref x, y])) : WkAt (upd H q (.lst ys)) w W p := by
  obtain ⟨gd, ol, al, gvs, ovs, avs, i, n1, n2, n3⟩ := h
  have nl : ∀ {a : Addr} {xs : List V} {l : List (Str × Str)}, H a = some (.lst xs) → All2 (PairAt H) l xs → a ≠ q := fun {a xs l} h1 h2 z => by
    subst z
    rw [e] at h1
    cases h1
    cases h2 with
    | cons h _ =>
      obtain ⟨b, zz, e2⟩ := h
      cases zz
      rw [et] at e2
      cases e2
  have tx : Tx H (upd H q (.lst ys)) := tx_lst e
  exact ⟨gd, ol, al, gvs, ovs, avs, ⟨(upd_ne (ne_of i.at_ e (by intro z; cases z))).trans i.at_, (upd_ne (ne_of i.gat e (by intro z; cases z))).trans i.gat, i.g.mono (fun _ _ z => z.tx tx), (upd_ne (nl i.oat i.o)).trans i.oat, all2_pairs i.o tx, (upd_ne (nl i.aat i.a)).trans i.aat, all2_pairs i.a tx⟩, n1, n2, n3⟩
abbrev Pln := Addr × Addr × List Row × Wk
structure PlnAt (p : Addr) (H : Hp) (d : Pln) : Prop where
  rw : RowsAt H d.1 d.2.2.1
  ok : SchOk d.2.2.1
  wk : WkAt H d.2.2.2 d.2.1 p
  wo : WkOk d.2.2.1 d.2.2.2
theorem PlnAt.same {p : Addr} {H H' : Hp} {d : Pln} (h : PlnAt p H d) (s : Same H H') : PlnAt p H' d := { h with rw := h.rw.same s, wk := h.wk.same s }
theorem PlnAt.step {p c : Addr} {H H' : Hp} {d : Pln} (h : PlnAt p H d) (hp : PenAt H p c) (s : PenStep p c H H') : PlnAt p H' d := { h with rw := h.rw.step hp s, wk := h.wk.step hp s }
def PtAt (H : Hp) (d : Pln) (v : V) : Prop := ∃ t, v = .ref t ∧ H t = some (.tup [.ref d.1, .ref d.2.1])
def MdAt (C D CW CG : Addr) (H : Hp) (d : Pln) (v : V) : Prop := ∃ S m, v = .ref m ∧ WkrAt CW CG H S d.2.2.2 m ∧ SchAt C D H d.2.2.1 S
theorem MdAt.same {C D CW CG : Addr} {H H' : Hp} {d : Pln} {v : V} (h : MdAt C D CW CG H d v) (s : Same H H') : MdAt C D CW CG H' d v := by
  obtain ⟨S, m, e, h1, h2⟩ := h
  exact ⟨S, m, e, h1.same s, h2.same s⟩
def spWEqB (C D CW CG : Addr) : Sp := fun vs H Q _ => ∃ (a b S S' : Addr) (rows rows' : List Row) (w w' : Wk), vs = [.ref a, .ref b] ∧ SchAt C D H rows S ∧ SchAt C D H rows' S' ∧ WkrAt CW CG H S w a ∧ WkrAt CW CG H S' w' b ∧ (a = b → rows = rows' ∧ w = w') ∧ ∀ r H', (r = true ↔ rows = rows' ∧ w = w') → Same H H' → Q (.bl r) H'
def spWEqV (CW CG : Addr) (K : PySem.W.Frag) : Sp := fun vs H Q _ => ∃ (a S : Addr) (w : Wk) (v : V) (tb : Value), vs = [.ref a, v] ∧ WkrAt CW CG H S w a ∧ TyX K H v tb ∧ PySem.W.kitOne K tb (.ref CW) = some false ∧ ∀ H', Same H H' → Q (.bl false) H'
def spLKey (K : PySem.W.Frag) : Sp := fun vs H Q _ => ∃ (L W p : Addr) (rows : List Row) (w : Wk), vs = [.ref L, .ref W] ∧ RowsAt H L rows ∧ SchOk rows ∧ WkAt H w W p ∧ WkOk rows w ∧ ∀ H', Same H H' → Q (.str (keyP rows w).shown) H'
def spLOnePart : Sp := fun vs H Q _ => ∃ (p c L W : Addr) (rows : List Row) (w : Wk), vs = [.ref p, .ref L, .ref W] ∧ PenAt H p c ∧ RowsAt H L rows ∧ SchOk rows ∧ WkAt H w W p ∧ WkOk rows w ∧ ∀ w' W' H', WkOk rows w' → PenStep p c H H' → H W' = none → WkAt H' w' W' p → Q (.ref W') H'
def spTurned2 : Sp := fun vs H Q _ => ∃ (p c L : Addr) (rows : List Row), vs = [.ref p, .ref L] ∧ PenAt H p c ∧ RowsAt H L rows ∧ SchOk rows ∧ ∀ q more H', PenStep p c H H' → H q = none → RowsAt H' q more → All2 RowLike rows more → Q (.ref q) H'
end Wm
namespace Wm
open PySem L2
def top (i : Nat) : Stmt := PySem.Challenge.pw_walkmarks_k38_walkers_compared.main.body.getD i (.Pass ⟨0, 0, 0, 0⟩)
abbrev s_is_letters : Stmt := top 35
abbrev s_is_kind_name : Stmt := top 36
abbrev s_is_field_name : Stmt := top 37
abbrev s_is_mode : Stmt := top 38
abbrev s_is_field : Stmt := top 52
abbrev s_is_bases : Stmt := top 53
abbrev s_Kind_init : Stmt := inClass (top 54) 0
abbrev s_make_kind : Stmt := top 55
abbrev s_Schema_init : Stmt := inClass (top 56) 2
abbrev s_Schema_getitem : Stmt := inClass (top 56) 8
abbrev s_Schema_under : Stmt := inClass (top 56) 12
abbrev s_is_choice : Stmt := top 14
abbrev s_Schema_contains : Stmt := inClass (top 56) 6
abbrev s_is_start : Stmt := top 19
abbrev s_is_pairs : Stmt := top 20
abbrev s_is_guards : Stmt := top 21
abbrev s_is_owned : Stmt := top 22
abbrev s_is_fields : Stmt := top 23
abbrev s_is_limit : Stmt := top 24
abbrev s_wrong_part : Stmt := top 25
abbrev s_guards_in_order : Stmt := top 26
abbrev s_fields_in_order : Stmt := top 27
abbrev s_Schema_eq : Stmt := inClass (top 56) 9
abbrev s_Guard_eq : Stmt := inClass (top 15) 3
abbrev s_Guard_str : Stmt := inClass (top 15) 4
abbrev s_Walker_parts : Stmt := inClass (top 48) 2
abbrev s_Walker_eq : Stmt := inClass (top 48) 3
abbrev s_walker_text : Stmt := top 41
abbrev s_Walker_str : Stmt := inClass (top 48) 4
abbrev s_l_pen : Stmt := top 60
abbrev s_l_take : Stmt := top 61
abbrev s_l_bit : Stmt := top 62
abbrev s_l_letters : Stmt := top 63
abbrev s_l_names : Stmt := top 64
abbrev s_l_kind_names : Stmt := top 65
abbrev s_l_field_names : Stmt := top 66
abbrev s_l_line : Stmt := top 67
abbrev s_l_fields : Stmt := top 68
abbrev s_l_concrete : Stmt := top 69
abbrev s_l_under : Stmt := top 70
abbrev s_l_merged : Stmt := top 71
abbrev s_l_own_fields : Stmt := top 72
abbrev s_l_rows : Stmt := top 73
abbrev s_l_pick : Stmt := top 74
abbrev s_l_guard_drawn : Stmt := top 75
abbrev s_l_guard_made : Stmt := top 76
abbrev s_l_walker : Stmt := top 77
abbrev s_l_walker_made : Stmt := top 78
abbrev s_l_key : Stmt := top 79
abbrev s_l_one_part : Stmt := top 80
abbrev s_l_turned : Stmt := top 81
abbrev s_law : Stmt := top 82
abbrev s_Guard_init : Stmt := inClass (top 15) 1
abbrev s_Walker_init : Stmt := inClass (top 48) 0
theorem sc_is_letters : FnScope ["text", "letter"] ["text"] (defScope s_is_letters) := ⟨rfl, rfl, rfl, by decide +kernel, rfl, by decide +kernel, by decide +kernel⟩
theorem sc_is_kind_name : FnScope ["thing"] ["thing"] (defScope s_is_kind_name) := ⟨rfl, rfl, rfl, by decide +kernel, rfl, by decide +kernel, by decide +kernel⟩
theorem sc_is_field_name : FnScope ["thing"] ["thing"] (defScope s_is_field_name) := ⟨rfl, rfl, rfl, by decide +kernel, rfl, by decide +kernel, by decide +kernel⟩
theorem sc_is_mode : FnScope ["thing"] ["thing"] (defScope s_is_mode) := ⟨rfl, rfl, rfl, by decide +kernel, rfl, by decide +kernel, by decide +kernel⟩
theorem sc_is_field : FnScope ["thing", "targets", "name", "mode", "target"] ["thing", "targets"] (defScope s_is_field) := ⟨rfl, rfl, rfl, by decide +kernel, rfl, by decide +kernel, by decide +kernel⟩
theorem sc_is_bases : FnScope ["thing", "names", "name"] ["thing", "names"] (defScope s_is_bases) := ⟨rfl, rfl, rfl, by decide +kernel, rfl, by decide +kernel, by decide +kernel⟩
theorem sc_Kind_init : FnScope ["self", "row", "known", "line", "base", "at", "name", "fields", "owned", "field", "mode", "target"] ["self", "row", "known"] (defScope s_Kind_init) := ⟨rfl, rfl, rfl, by decide +kernel, rfl, by decide +kernel, by decide +kernel⟩
theorem sc_make_kind : FnScope ["row", "known", "targets", "name", "bases", "is_abstract", "own", "field", "kind", "names"] ["row", "known", "targets"] (defScope s_make_kind) := ⟨rfl, rfl, rfl, by decide +kernel, rfl, by decide +kernel, by decide +kernel⟩
theorem sc_Schema_init : FnScope ["self", "rows", "targets", "row", "known", "at", "kind", "name"] ["self", "rows"] (defScope s_Schema_init) := ⟨rfl, rfl, rfl, by decide +kernel, rfl, by decide +kernel, by decide +kernel⟩
theorem sc_Schema_getitem : FnScope ["self", "name"] ["self", "name"] (defScope s_Schema_getitem) := ⟨rfl, rfl, rfl, by decide +kernel, rfl, by decide +kernel, by decide +kernel⟩
theorem sc_Schema_under : FnScope ["self", "name", "above", "one"] ["self", "name"] (defScope s_Schema_under) := ⟨rfl, rfl, rfl, by decide +kernel, rfl, by decide +kernel, by decide +kernel⟩
theorem sc_is_choice : FnScope ["thing", "choices"] ["thing", "choices"] (defScope s_is_choice) := ⟨rfl, rfl, rfl, by decide +kernel, rfl, by decide +kernel, by decide +kernel⟩
theorem sc_Schema_contains : FnScope ["self", "thing"] ["self", "thing"] (defScope s_Schema_contains) := ⟨rfl, rfl, rfl, by decide +kernel, rfl, by decide +kernel, by decide +kernel⟩
theorem sc_is_start : FnScope ["schema", "thing"] ["schema", "thing"] (defScope s_is_start) := ⟨rfl, rfl, rfl, by decide +kernel, rfl, by decide +kernel, by decide +kernel⟩
theorem sc_is_pairs : FnScope ["thing", "pair"] ["thing"] (defScope s_is_pairs) := ⟨rfl, rfl, rfl, by decide +kernel, rfl, by decide +kernel, by decide +kernel⟩
theorem sc_is_guards : FnScope ["schema", "thing", "kinds", "kind", "guard"] ["schema", "thing"] (defScope s_is_guards) := ⟨rfl, rfl, rfl, by decide +kernel, rfl, by decide +kernel, by decide +kernel⟩
theorem sc_is_owned : FnScope ["schema", "owner", "field", "name", "mode", "target"] ["schema", "owner", "field"] (defScope s_is_owned) := ⟨rfl, rfl, rfl, by decide +kernel, rfl, by decide +kernel, by decide +kernel⟩
theorem sc_is_fields : FnScope ["schema", "thing", "others", "found", "owner", "field"] ["schema", "thing", "others"] (defScope s_is_fields) := ⟨rfl, rfl, rfl, by decide +kernel, rfl, by decide +kernel, by decide +kernel⟩
theorem sc_is_limit : FnScope ["thing"] ["thing"] (defScope s_is_limit) := ⟨rfl, rfl, rfl, by decide +kernel, rfl, by decide +kernel, by decide +kernel⟩
theorem sc_wrong_part : FnScope ["schema", "parts"] ["schema", "parts"] (defScope s_wrong_part) := ⟨rfl, rfl, rfl, by decide +kernel, rfl, by decide +kernel, by decide +kernel⟩
theorem sc_guards_in_order : FnScope ["schema", "pairs", "found", "kind", "guard", "name"] ["schema", "pairs"] (defScope s_guards_in_order) := ⟨rfl, rfl, rfl, by decide +kernel, rfl, by decide +kernel, by decide +kernel⟩
theorem sc_fields_in_order : FnScope ["schema", "pairs", "found", "owner", "name", "mode", "target"] ["schema", "pairs"] (defScope s_fields_in_order) := ⟨rfl, rfl, rfl, by decide +kernel, rfl, by decide +kernel, by decide +kernel⟩
theorem sc_Schema_eq : FnScope ["self", "other"] ["self", "other"] (defScope s_Schema_eq) := ⟨rfl, rfl, rfl, by decide +kernel, rfl, by decide +kernel, by decide +kernel⟩
theorem sc_Guard_eq : FnScope ["self", "other"] ["self", "other"] (defScope s_Guard_eq) := ⟨rfl, rfl, rfl, by decide +kernel, rfl, by decide +kernel, by decide +kernel⟩
theorem sc_Guard_str : FnScope ["self", "parts"] ["self"] (defScope s_Guard_str) := ⟨rfl, rfl, rfl, by decide +kernel, rfl, by decide +kernel, by decide +kernel⟩
theorem sc_Walker_parts : FnScope ["self"] ["self"] (defScope s_Walker_parts) := ⟨rfl, rfl, rfl, by decide +kernel, rfl, by decide +kernel, by decide +kernel⟩
theorem sc_Walker_eq : FnScope ["self", "other"] ["self", "other"] (defScope s_Walker_eq) := ⟨rfl, rfl, rfl, by decide +kernel, rfl, by decide +kernel, by decide +kernel⟩
theorem sc_walker_text : FnScope ["parts", "lines", "kind", "guard", "owner", "field"] ["parts"] (defScope s_walker_text) := ⟨rfl, rfl, rfl, by decide +kernel, rfl, by decide +kernel, by decide +kernel⟩
theorem sc_Walker_str : FnScope ["self"] ["self"] (defScope s_Walker_str) := ⟨rfl, rfl, rfl, by decide +kernel, rfl, by decide +kernel, by decide +kernel⟩
theorem sc_l_pen : FnScope ["_law_script", "_law_total", "_law_cell"] ["_law_script"] (defScope s_l_pen) := ⟨rfl, rfl, rfl, by decide +kernel, rfl, by decide +kernel, by decide +kernel⟩
theorem sc_l_take : FnScope ["_law_pen_here", "_law_bound", "_law_cell", "_law_mixed", "_law_digit"] ["_law_pen_here", "_law_bound"] (defScope s_l_take) := ⟨rfl, rfl, rfl, by decide +kernel, rfl, by decide +kernel, by decide +kernel⟩
theorem sc_l_bit : FnScope ["_law_pen_here", "_law_bound"] ["_law_pen_here", "_law_bound"] (defScope s_l_bit) := ⟨rfl, rfl, rfl, by decide +kernel, rfl, by decide +kernel, by decide +kernel⟩
theorem sc_l_letters : FnScope ["_law_pen_here", "_law_place", "_law_index", "_law_offset", "_law_plain", "_law_letters_here", "_law_size", "_law_chosen", "_law_k"] ["_law_pen_here", "_law_place", "_law_index", "_law_offset", "_law_plain"] (defScope s_l_letters) := ⟨rfl, rfl, rfl, by decide +kernel, rfl, by decide +kernel, by decide +kernel⟩
theorem sc_l_names : FnScope ["_law_pen_here", "_law_count", "_law_plain", "_law_place", "_law_offset", "_law_k"] ["_law_pen_here", "_law_count"] (defScope s_l_names) := ⟨rfl, rfl, rfl, by decide +kernel, rfl, by decide +kernel, by decide +kernel⟩
theorem sc_l_kind_names : FnScope ["_law_pen_here", "_law_count", "_law_name"] ["_law_pen_here", "_law_count"] (defScope s_l_kind_names) := ⟨rfl, rfl, rfl, by decide +kernel, rfl, by decide +kernel, by decide +kernel⟩
theorem sc_l_field_names : FnScope ["_law_pen_here", "_law_count", "_law_found", "_law_name"] ["_law_pen_here", "_law_count"] (defScope s_l_field_names) := ⟨rfl, rfl, rfl, by decide +kernel, rfl, by decide +kernel, by decide +kernel⟩
theorem sc_l_line : FnScope ["_law_rows_here", "_law_name", "_law_lines", "_law_row", "_law_line_here", "_law_base", "_law_k"] ["_law_rows_here", "_law_name"] (defScope s_l_line) := ⟨rfl, rfl, rfl, by decide +kernel, rfl, by decide +kernel, by decide +kernel⟩
theorem sc_l_fields : FnScope ["_law_rows_here", "_law_name", "_law_owned", "_law_row", "_law_line_here", "_law_found", "_law_k", "_law_owner", "_law_field"] ["_law_rows_here", "_law_name"] (defScope s_l_fields) := ⟨rfl, rfl, rfl, by decide +kernel, rfl, by decide +kernel, by decide +kernel⟩
theorem sc_l_concrete : FnScope ["_law_rows_here", "_law_row"] ["_law_rows_here"] (defScope s_l_concrete) := ⟨rfl, rfl, rfl, by decide +kernel, rfl, by decide +kernel, by decide +kernel⟩
theorem sc_l_under : FnScope ["_law_rows_here", "_law_name", "_law_one"] ["_law_rows_here", "_law_name"] (defScope s_l_under) := ⟨rfl, rfl, rfl, by decide +kernel, rfl, by decide +kernel, by decide +kernel⟩
theorem sc_l_merged : FnScope ["_law_rows_here", "_law_held", "_law_base", "_law_merged_here", "_law_field", "_law_names_here", "_law_pair", "_law_name"] ["_law_rows_here", "_law_held", "_law_base"] (defScope s_l_merged) := ⟨rfl, rfl, rfl, by decide +kernel, rfl, by decide +kernel, by decide +kernel⟩
theorem sc_l_own_fields : FnScope ["_law_pen_here", "_law_names_here", "_law_pool", "_law_held", "_law_inherited", "_law_pair", "_law_shift", "_law_free", "_law_name", "_law_own", "_law_k", "_law_mode"] ["_law_pen_here", "_law_names_here", "_law_pool", "_law_held"] (defScope s_l_own_fields) := ⟨rfl, rfl, rfl, by decide +kernel, rfl, by decide +kernel, by decide +kernel⟩
theorem sc_l_rows : FnScope ["_law_pen_here", "_law_cap", "_law_count", "_law_names_here", "_law_pool", "_law_rows_here", "_law_k", "_law_bases", "_law_held", "_law_turn", "_law_base", "_law_merged_here", "_law_own", "_law_is_abstract"] ["_law_pen_here", "_law_cap"] (defScope s_l_rows) := ⟨rfl, rfl, rfl, by decide +kernel, rfl, by decide +kernel, by decide +kernel⟩
theorem sc_l_pick : FnScope ["_law_pen_here", "_law_options"] ["_law_pen_here", "_law_options"] (defScope s_l_pick) := ⟨rfl, rfl, rfl, by decide +kernel, rfl, by decide +kernel, by decide +kernel⟩
theorem sc_l_guard_drawn : FnScope ["_law_pen_here", "_law_mark", "_law_saved", "_law_deed", "_law_kin", "_law_saved_by"] ["_law_pen_here"] (defScope s_l_guard_drawn) := ⟨rfl, rfl, rfl, by decide +kernel, rfl, by decide +kernel, by decide +kernel⟩
theorem sc_l_guard_made : FnScope ["_law_plain"] ["_law_plain"] (defScope s_l_guard_made) := ⟨rfl, rfl, rfl, by decide +kernel, rfl, by decide +kernel, by decide +kernel⟩
theorem sc_l_walker : FnScope ["_law_pen_here", "_law_rows_here", "_law_walker_here", "_law_row", "_law_field", "_law_way"] ["_law_pen_here", "_law_rows_here"] (defScope s_l_walker) := ⟨rfl, rfl, rfl, by decide +kernel, rfl, by decide +kernel, by decide +kernel⟩
theorem sc_l_walker_made : FnScope ["_law_schema", "_law_walker_here", "_law_guard_rows", "_law_kind", "_law_plain"] ["_law_schema", "_law_walker_here"] (defScope s_l_walker_made) := ⟨rfl, rfl, rfl, by decide +kernel, rfl, by decide +kernel, by decide +kernel⟩
theorem sc_l_key : FnScope ["_law_rows_here", "_law_walker_here", "_law_guard_rows", "_law_row"] ["_law_rows_here", "_law_walker_here"] (defScope s_l_key) := ⟨rfl, rfl, rfl, by decide +kernel, rfl, by decide +kernel, by decide +kernel⟩
theorem sc_l_one_part : FnScope ["_law_pen_here", "_law_rows_here", "_law_walker_here", "_law_changed", "_law_other", "_law_name", "_law_pair"] ["_law_pen_here", "_law_rows_here", "_law_walker_here"] (defScope s_l_one_part) := ⟨rfl, rfl, rfl, by decide +kernel, rfl, by decide +kernel, by decide +kernel⟩
theorem sc_l_turned : FnScope ["_law_pen_here", "_law_rows_here", "_law_turned_here", "_law_row", "_law_fields_here", "_law_field", "_law_mode"] ["_law_pen_here", "_law_rows_here"] (defScope s_l_turned) := ⟨rfl, rfl, rfl, by decide +kernel, rfl, by decide +kernel, by decide +kernel⟩
theorem sc_law : FnScope ["_law_script", "_law_pen_here", "_law_turn", "_law_rows_here", "_law_walker_here", "_law_plain", "_law_made", "_law_one", "_law_k", "_law_n", "_law_due", "_law_thing"] ["_law_script"] (defScope s_law) := ⟨rfl, rfl, rfl, by decide +kernel, rfl, by decide +kernel, by decide +kernel⟩
theorem sc_Guard_init : FnScope ["self", "mark", "act", "by", "keep", "keep_by", "checked", "part", "value", "choices"] ["self", "mark", "act", "by", "keep", "keep_by"] (defScope s_Guard_init) := ⟨rfl, rfl, rfl, by decide +kernel, rfl, by decide +kernel, by decide +kernel⟩
theorem sc_Walker_init : FnScope ["self", "schema", "start", "guards", "out", "anew", "limit", "frees", "parts", "wrong"] ["self", "schema", "start", "guards", "out", "anew", "limit", "frees"] (defScope s_Walker_init) := ⟨rfl, rfl, rfl, by decide +kernel, rfl, by decide +kernel, by decide +kernel⟩
abbrev s_BadSchema_init : Stmt := inClass (top 3) 0
abbrev s_NoKind_init : Stmt := inClass (top 5) 0
abbrev s_BadGuard_init : Stmt := inClass (top 6) 0
abbrev s_BadWalker_init : Stmt := inClass (top 7) 0
set_option genInjectivity false in
set_option genSizeOf false in
structure Ad where
  (MODES RESERVED BadSchema NoKind BadGuard BadWalker Kind Schema MARKS ACTS BY KEEPS Guard Guard_init dW_guards dW_out dW_anew Walker Walker_init is_letters is_kind_name is_field_name is_mode is_field is_bases Kind_init make_kind Schema_init Schema_getitem Schema_under is_choice Schema_contains is_start is_pairs is_guards is_owned is_fields is_limit wrong_part guards_in_order fields_in_order Schema_eq Guard_eq Guard_str Walker_parts Walker_eq walker_text Walker_str l_pen l_take l_bit l_letters l_names l_kind_names l_field_names l_line l_fields l_concrete l_under l_merged l_own_fields l_rows l_pick l_guard_drawn l_guard_made l_walker l_walker_made l_key l_one_part l_turned law : Addr)
  (fd_Guard_init fd_Walker_init fd_is_letters fd_is_kind_name fd_is_field_name fd_is_mode fd_is_field fd_is_bases fd_Kind_init fd_make_kind fd_Schema_init fd_Schema_getitem fd_Schema_under fd_is_choice fd_Schema_contains fd_is_start fd_is_pairs fd_is_guards fd_is_owned fd_is_fields fd_is_limit fd_wrong_part fd_guards_in_order fd_fields_in_order fd_Schema_eq fd_Guard_eq fd_Guard_str fd_Walker_parts fd_Walker_eq fd_walker_text fd_Walker_str fd_l_pen fd_l_take fd_l_bit fd_l_letters fd_l_names fd_l_kind_names fd_l_field_names fd_l_line fd_l_fields fd_l_concrete fd_l_under fd_l_merged fd_l_own_fields fd_l_rows fd_l_pick fd_l_guard_drawn fd_l_guard_made fd_l_walker fd_l_walker_made fd_l_key fd_l_one_part fd_l_turned fd_law : FuncData)
structure Txt (P : Program) (K : PySem.W.Frag) (mg : Str → Option Value) (ad : Ad) : Prop where
  n_len : mg "len" = none
  n_int : mg "int" = none
  n_list : mg "list" = none
  n_range : mg "range" = none
  n_isinstance : mg "isinstance" = none
  n_str : mg "str" = none
  n_tuple : mg "tuple" = none
  n_set : mg "set" = none
  n_enumerate : mg "enumerate" = none
  n_reversed : mg "reversed" = none
  n_all : mg "all" = none
  n_repr : mg "repr" = none
  n_bool : mg "bool" = none
  c_MODES : ∀ H, SqT K H ad.MODES (MODESl.map V.str)
  g_MODES : mg "MODES" = some (.ref ad.MODES)
  c_RESERVED : ∀ H, SqT K H ad.RESERVED (RESl.map V.str)
  g_RESERVED : mg "RESERVED" = some (.ref ad.RESERVED)
  u_CAPITALS : ∃ u, mg "CAPITALS" = some u ∧ RelV (.str CAPS) u
  u_LETTERS : ∃ u, mg "LETTERS" = some u ∧ RelV (.str LOWS) u
  u_MOST_BASES : ∃ u, mg "MOST_BASES" = some u ∧ RelV (.int 3) u
  g_BadSchema : mg "BadSchema" = some (.ref ad.BadSchema)
  er_BadSchema : ErC P K "BadSchema.__init__" ["at"] ad.BadSchema
  te_BadSchema : PySem.W.exmOne K (.ref ad.BadSchema) (.ref ad.BadSchema) = some true
  xf_BadSchema : XfC K ad.BadSchema
  no_BadSchema_at : PySem.W.findIn K (.ref ad.BadSchema) "at" = some none
  g_NoKind : mg "NoKind" = some (.ref ad.NoKind)
  er_NoKind : ErC P K "NoKind.__init__" ["kind"] ad.NoKind
  te_NoKind : PySem.W.exmOne K (.ref ad.NoKind) (.ref ad.NoKind) = some true
  xf_NoKind : XfC K ad.NoKind
  no_NoKind_kind : PySem.W.findIn K (.ref ad.NoKind) "kind" = some none
  g_BadGuard : mg "BadGuard" = some (.ref ad.BadGuard)
  er_BadGuard : ErC P K "BadGuard.__init__" ["part"] ad.BadGuard
  te_BadGuard : PySem.W.exmOne K (.ref ad.BadGuard) (.ref ad.BadGuard) = some true
  xf_BadGuard : XfC K ad.BadGuard
  no_BadGuard_part : PySem.W.findIn K (.ref ad.BadGuard) "part" = some none
  g_BadWalker : mg "BadWalker" = some (.ref ad.BadWalker)
  er_BadWalker : ErC P K "BadWalker.__init__" ["part"] ad.BadWalker
  te_BadWalker : PySem.W.exmOne K (.ref ad.BadWalker) (.ref ad.BadWalker) = some true
  xf_BadWalker : XfC K ad.BadWalker
  no_BadWalker_part : PySem.W.findIn K (.ref ad.BadWalker) "part" = some none
  g_Kind : mg "Kind" = some (.ref ad.Kind)
  ow_Kind : OwnC K ad.Kind
  no_Kind_name : NoAttr K ad.Kind "name"
  no_Kind_bases : NoAttr K ad.Kind "bases"
  no_Kind_is_abstract : NoAttr K ad.Kind "is_abstract"
  no_Kind_own : NoAttr K ad.Kind "own"
  no_Kind_line : NoAttr K ad.Kind "line"
  no_Kind_fields : NoAttr K ad.Kind "fields"
  g_Schema : mg "Schema" = some (.ref ad.Schema)
  ow_Schema : OwnC K ad.Schema
  no_Schema_rows : NoAttr K ad.Schema "rows"
  no_Schema_names : NoAttr K ad.Schema "names"
  no_Schema_known : NoAttr K ad.Schema "known"
  nf_Schema : ∀ t, t ∈ ["NoneType", "bool", "int", "str", "list", "tuple", "dict"] → PySem.W.notFirst K ad.Schema (.type t) = true
  nfo_Schema : PySem.W.notFirst K ad.Schema (.ref ad.Schema) = true
  cr_Schema_MOST : ∃ mc u, ClX.CRead K ad.Schema mc ∧ ClX.CVal K ad.Schema mc "MOST" (.int 6) u
  cr_Schema_FIELDS : ∃ mc u, ClX.CRead K ad.Schema mc ∧ ClX.CVal K ad.Schema mc "FIELDS" (.int 4) u
  c_MARKS : ∀ H, SqT K H ad.MARKS (MARKSl.map V.str)
  g_MARKS : mg "MARKS" = some (.ref ad.MARKS)
  c_ACTS : ∀ H, SqT K H ad.ACTS (ACTSl.map V.str)
  g_ACTS : mg "ACTS" = some (.ref ad.ACTS)
  c_BY : ∀ H, SqT K H ad.BY (BYl.map V.str)
  g_BY : mg "BY" = some (.ref ad.BY)
  c_KEEPS : ∀ H, SqT K H ad.KEEPS (KEEPSl.map V.str)
  g_KEEPS : mg "KEEPS" = some (.ref ad.KEEPS)
  g_Guard : mg "Guard" = some (.ref ad.Guard)
  ow_Guard : OwnC K ad.Guard
  no_Guard_mark : NoAttr K ad.Guard "mark"
  no_Guard_act : NoAttr K ad.Guard "act"
  no_Guard_by : NoAttr K ad.Guard "by"
  no_Guard_keep : NoAttr K ad.Guard "keep"
  no_Guard_keep_by : NoAttr K ad.Guard "keep_by"
  nf_Guard : ∀ t, t ∈ ["NoneType", "bool", "int", "str", "list", "tuple", "dict"] → PySem.W.notFirst K ad.Guard (.type t) = true
  nfo_Guard : PySem.W.notFirst K ad.Guard (.ref ad.Guard) = true
  F_Guard_init : FunD K "__init__" "Guard.__init__" (defArgs s_Guard_init) (defBody s_Guard_init) (defScope s_Guard_init) [.str "none"] [("act", .str "ring"), ("by", .str "same"), ("keep", .str "none"), ("keep_by", .str "same")] ad.Guard_init ad.fd_Guard_init
  n_dict : mg "dict" = none
  n_min : mg "min" = none
  u_MOST_LIMIT : ∃ u, mg "MOST_LIMIT" = some u ∧ RelV (.int 20) u
  g_Walker : mg "Walker" = some (.ref ad.Walker)
  ow_Walker : OwnC K ad.Walker
  no_Walker_schema : NoAttr K ad.Walker "schema"
  no_Walker_start : NoAttr K ad.Walker "start"
  no_Walker_guards : NoAttr K ad.Walker "guards"
  no_Walker_out : NoAttr K ad.Walker "out"
  no_Walker_anew : NoAttr K ad.Walker "anew"
  no_Walker_limit : NoAttr K ad.Walker "limit"
  no_Walker_frees : NoAttr K ad.Walker "frees"
  nf_Walker : ∀ t, t ∈ ["NoneType", "bool", "int", "str", "list", "tuple", "dict"] → PySem.W.notFirst K ad.Walker (.type t) = true
  nfo_Walker : PySem.W.notFirst K ad.Walker (.ref ad.Walker) = true
  F_Walker_init : FunD K "__init__" "Walker.__init__" (defArgs s_Walker_init) (defBody s_Walker_init) (defScope s_Walker_init) [] [("guards", .ref ad.dW_guards), ("out", .ref ad.dW_out), ("anew", .ref ad.dW_anew), ("limit", .non), ("frees", .bl true)] ad.Walker_init ad.fd_Walker_init
  nc_Walker : NeC K ad.Walker
  ks_Walker : PySem.W.kitOne K (.ref ad.Schema) (.ref ad.Walker) = some false
  nfs_Walker : PySem.W.notFirst K ad.Walker (.ref ad.Schema) = true
  g_is_letters : mg "is_letters" = some (.ref ad.is_letters)
  F_is_letters : Fun K "is_letters" "is_letters" s_is_letters ad.is_letters ad.fd_is_letters
  b_is_letters : Binds K ad.fd_is_letters ["text"] []
  g_is_kind_name : mg "is_kind_name" = some (.ref ad.is_kind_name)
  F_is_kind_name : Fun K "is_kind_name" "is_kind_name" s_is_kind_name ad.is_kind_name ad.fd_is_kind_name
  b_is_kind_name : Binds K ad.fd_is_kind_name ["thing"] []
  g_is_field_name : mg "is_field_name" = some (.ref ad.is_field_name)
  F_is_field_name : Fun K "is_field_name" "is_field_name" s_is_field_name ad.is_field_name ad.fd_is_field_name
  b_is_field_name : Binds K ad.fd_is_field_name ["thing"] []
  g_is_mode : mg "is_mode" = some (.ref ad.is_mode)
  F_is_mode : Fun K "is_mode" "is_mode" s_is_mode ad.is_mode ad.fd_is_mode
  b_is_mode : Binds K ad.fd_is_mode ["thing"] []
  g_is_field : mg "is_field" = some (.ref ad.is_field)
  F_is_field : Fun K "is_field" "is_field" s_is_field ad.is_field ad.fd_is_field
  b_is_field : Binds K ad.fd_is_field ["thing", "targets"] []
  g_is_bases : mg "is_bases" = some (.ref ad.is_bases)
  F_is_bases : Fun K "is_bases" "is_bases" s_is_bases ad.is_bases ad.fd_is_bases
  b_is_bases : Binds K ad.fd_is_bases ["thing", "names"] []
  F_Kind_init : Fun K "__init__" "Kind.__init__" s_Kind_init ad.Kind_init ad.fd_Kind_init
  b_Kind_init : Binds K ad.fd_Kind_init ["self", "row", "known"] []
  me_Kind_init : Meth K ad.Kind "__init__" ad.Kind_init
  g_make_kind : mg "make_kind" = some (.ref ad.make_kind)
  F_make_kind : Fun K "make_kind" "make_kind" s_make_kind ad.make_kind ad.fd_make_kind
  b_make_kind : Binds K ad.fd_make_kind ["row", "known", "targets"] []
  F_Schema_init : Fun K "__init__" "Schema.__init__" s_Schema_init ad.Schema_init ad.fd_Schema_init
  b_Schema_init : Binds K ad.fd_Schema_init ["self", "rows"] []
  me_Schema_init : Meth K ad.Schema "__init__" ad.Schema_init
  F_Schema_getitem : Fun K "__getitem__" "Schema.__getitem__" s_Schema_getitem ad.Schema_getitem ad.fd_Schema_getitem
  b_Schema_getitem : Binds K ad.fd_Schema_getitem ["self", "name"] []
  me_Schema_getitem : Meth K ad.Schema "__getitem__" ad.Schema_getitem
  F_Schema_under : Fun K "under" "Schema.under" s_Schema_under ad.Schema_under ad.fd_Schema_under
  b_Schema_under : Binds K ad.fd_Schema_under ["self", "name"] []
  me_Schema_under : Meth K ad.Schema "under" ad.Schema_under
  g_is_choice : mg "is_choice" = some (.ref ad.is_choice)
  F_is_choice : Fun K "is_choice" "is_choice" s_is_choice ad.is_choice ad.fd_is_choice
  b_is_choice : Binds K ad.fd_is_choice ["thing", "choices"] []
  F_Schema_contains : Fun K "__contains__" "Schema.__contains__" s_Schema_contains ad.Schema_contains ad.fd_Schema_contains
  b_Schema_contains : Binds K ad.fd_Schema_contains ["self", "thing"] []
  me_Schema_contains : Meth K ad.Schema "__contains__" ad.Schema_contains
  g_is_start : mg "is_start" = some (.ref ad.is_start)
  F_is_start : Fun K "is_start" "is_start" s_is_start ad.is_start ad.fd_is_start
  b_is_start : Binds K ad.fd_is_start ["schema", "thing"] []
  g_is_pairs : mg "is_pairs" = some (.ref ad.is_pairs)
  F_is_pairs : Fun K "is_pairs" "is_pairs" s_is_pairs ad.is_pairs ad.fd_is_pairs
  b_is_pairs : Binds K ad.fd_is_pairs ["thing"] []
  g_is_guards : mg "is_guards" = some (.ref ad.is_guards)
  F_is_guards : Fun K "is_guards" "is_guards" s_is_guards ad.is_guards ad.fd_is_guards
  b_is_guards : Binds K ad.fd_is_guards ["schema", "thing"] []
  g_is_owned : mg "is_owned" = some (.ref ad.is_owned)
  F_is_owned : Fun K "is_owned" "is_owned" s_is_owned ad.is_owned ad.fd_is_owned
  b_is_owned : Binds K ad.fd_is_owned ["schema", "owner", "field"] []
  g_is_fields : mg "is_fields" = some (.ref ad.is_fields)
  F_is_fields : Fun K "is_fields" "is_fields" s_is_fields ad.is_fields ad.fd_is_fields
  b_is_fields : Binds K ad.fd_is_fields ["schema", "thing", "others"] []
  g_is_limit : mg "is_limit" = some (.ref ad.is_limit)
  F_is_limit : Fun K "is_limit" "is_limit" s_is_limit ad.is_limit ad.fd_is_limit
  b_is_limit : Binds K ad.fd_is_limit ["thing"] []
  g_wrong_part : mg "wrong_part" = some (.ref ad.wrong_part)
  F_wrong_part : Fun K "wrong_part" "wrong_part" s_wrong_part ad.wrong_part ad.fd_wrong_part
  b_wrong_part : Binds K ad.fd_wrong_part ["schema", "parts"] []
  g_guards_in_order : mg "guards_in_order" = some (.ref ad.guards_in_order)
  F_guards_in_order : Fun K "guards_in_order" "guards_in_order" s_guards_in_order ad.guards_in_order ad.fd_guards_in_order
  b_guards_in_order : Binds K ad.fd_guards_in_order ["schema", "pairs"] []
  g_fields_in_order : mg "fields_in_order" = some (.ref ad.fields_in_order)
  F_fields_in_order : Fun K "fields_in_order" "fields_in_order" s_fields_in_order ad.fields_in_order ad.fd_fields_in_order
  b_fields_in_order : Binds K ad.fd_fields_in_order ["schema", "pairs"] []
  F_Schema_eq : Fun K "__eq__" "Schema.__eq__" s_Schema_eq ad.Schema_eq ad.fd_Schema_eq
  b_Schema_eq : Binds K ad.fd_Schema_eq ["self", "other"] []
  me_Schema_eq : Meth K ad.Schema "__eq__" ad.Schema_eq
  F_Guard_eq : Fun K "__eq__" "Guard.__eq__" s_Guard_eq ad.Guard_eq ad.fd_Guard_eq
  b_Guard_eq : Binds K ad.fd_Guard_eq ["self", "other"] []
  me_Guard_eq : Meth K ad.Guard "__eq__" ad.Guard_eq
  F_Guard_str : Fun K "__str__" "Guard.__str__" s_Guard_str ad.Guard_str ad.fd_Guard_str
  b_Guard_str : Binds K ad.fd_Guard_str ["self"] []
  me_Guard_str : Meth K ad.Guard "__str__" ad.Guard_str
  F_Walker_parts : Fun K "parts" "Walker.parts" s_Walker_parts ad.Walker_parts ad.fd_Walker_parts
  b_Walker_parts : Binds K ad.fd_Walker_parts ["self"] []
  me_Walker_parts : Meth K ad.Walker "parts" ad.Walker_parts
  F_Walker_eq : Fun K "__eq__" "Walker.__eq__" s_Walker_eq ad.Walker_eq ad.fd_Walker_eq
  b_Walker_eq : Binds K ad.fd_Walker_eq ["self", "other"] []
  me_Walker_eq : Meth K ad.Walker "__eq__" ad.Walker_eq
  g_walker_text : mg "walker_text" = some (.ref ad.walker_text)
  F_walker_text : Fun K "walker_text" "walker_text" s_walker_text ad.walker_text ad.fd_walker_text
  b_walker_text : Binds K ad.fd_walker_text ["parts"] []
  F_Walker_str : Fun K "__str__" "Walker.__str__" s_Walker_str ad.Walker_str ad.fd_Walker_str
  b_Walker_str : Binds K ad.fd_Walker_str ["self"] []
  me_Walker_str : Meth K ad.Walker "__str__" ad.Walker_str
  g_l_pen : mg "_law_pen" = some (.ref ad.l_pen)
  F_l_pen : Fun K "_law_pen" "_law_pen" s_l_pen ad.l_pen ad.fd_l_pen
  b_l_pen : Binds K ad.fd_l_pen ["_law_script"] []
  g_l_take : mg "_law_take" = some (.ref ad.l_take)
  F_l_take : Fun K "_law_take" "_law_take" s_l_take ad.l_take ad.fd_l_take
  b_l_take : Binds K ad.fd_l_take ["_law_pen_here", "_law_bound"] []
  g_l_bit : mg "_law_bit" = some (.ref ad.l_bit)
  F_l_bit : Fun K "_law_bit" "_law_bit" s_l_bit ad.l_bit ad.fd_l_bit
  b_l_bit : Binds K ad.fd_l_bit ["_law_pen_here", "_law_bound"] []
  g_l_letters : mg "_law_letters" = some (.ref ad.l_letters)
  F_l_letters : Fun K "_law_letters" "_law_letters" s_l_letters ad.l_letters ad.fd_l_letters
  b_l_letters : Binds K ad.fd_l_letters ["_law_pen_here", "_law_place", "_law_index", "_law_offset", "_law_plain"] []
  g_l_names : mg "_law_names" = some (.ref ad.l_names)
  F_l_names : Fun K "_law_names" "_law_names" s_l_names ad.l_names ad.fd_l_names
  b_l_names : Binds K ad.fd_l_names ["_law_pen_here", "_law_count"] []
  g_l_kind_names : mg "_law_kind_names" = some (.ref ad.l_kind_names)
  F_l_kind_names : Fun K "_law_kind_names" "_law_kind_names" s_l_kind_names ad.l_kind_names ad.fd_l_kind_names
  b_l_kind_names : Binds K ad.fd_l_kind_names ["_law_pen_here", "_law_count"] []
  g_l_field_names : mg "_law_field_names" = some (.ref ad.l_field_names)
  F_l_field_names : Fun K "_law_field_names" "_law_field_names" s_l_field_names ad.l_field_names ad.fd_l_field_names
  b_l_field_names : Binds K ad.fd_l_field_names ["_law_pen_here", "_law_count"] []
  g_l_line : mg "_law_line" = some (.ref ad.l_line)
  F_l_line : Fun K "_law_line" "_law_line" s_l_line ad.l_line ad.fd_l_line
  b_l_line : Binds K ad.fd_l_line ["_law_rows_here", "_law_name"] []
  g_l_fields : mg "_law_fields" = some (.ref ad.l_fields)
  F_l_fields : Fun K "_law_fields" "_law_fields" s_l_fields ad.l_fields ad.fd_l_fields
  b_l_fields : Binds K ad.fd_l_fields ["_law_rows_here", "_law_name"] []
  g_l_concrete : mg "_law_concrete" = some (.ref ad.l_concrete)
  F_l_concrete : Fun K "_law_concrete" "_law_concrete" s_l_concrete ad.l_concrete ad.fd_l_concrete
  b_l_concrete : Binds K ad.fd_l_concrete ["_law_rows_here"] []
  g_l_under : mg "_law_under" = some (.ref ad.l_under)
  F_l_under : Fun K "_law_under" "_law_under" s_l_under ad.l_under ad.fd_l_under
  b_l_under : Binds K ad.fd_l_under ["_law_rows_here", "_law_name"] []
  g_l_merged : mg "_law_merged" = some (.ref ad.l_merged)
  F_l_merged : Fun K "_law_merged" "_law_merged" s_l_merged ad.l_merged ad.fd_l_merged
  b_l_merged : Binds K ad.fd_l_merged ["_law_rows_here", "_law_held", "_law_base"] []
  g_l_own_fields : mg "_law_own_fields" = some (.ref ad.l_own_fields)
  F_l_own_fields : Fun K "_law_own_fields" "_law_own_fields" s_l_own_fields ad.l_own_fields ad.fd_l_own_fields
  b_l_own_fields : Binds K ad.fd_l_own_fields ["_law_pen_here", "_law_names_here", "_law_pool", "_law_held"] []
  g_l_rows : mg "_law_rows" = some (.ref ad.l_rows)
  F_l_rows : Fun K "_law_rows" "_law_rows" s_l_rows ad.l_rows ad.fd_l_rows
  b_l_rows : Binds K ad.fd_l_rows ["_law_pen_here", "_law_cap"] []
  g_l_pick : mg "_law_pick" = some (.ref ad.l_pick)
  F_l_pick : Fun K "_law_pick" "_law_pick" s_l_pick ad.l_pick ad.fd_l_pick
  b_l_pick : Binds K ad.fd_l_pick ["_law_pen_here", "_law_options"] []
  g_l_guard_drawn : mg "_law_guard_drawn" = some (.ref ad.l_guard_drawn)
  F_l_guard_drawn : Fun K "_law_guard_drawn" "_law_guard_drawn" s_l_guard_drawn ad.l_guard_drawn ad.fd_l_guard_drawn
  b_l_guard_drawn : Binds K ad.fd_l_guard_drawn ["_law_pen_here"] []
  g_l_guard_made : mg "_law_guard_made" = some (.ref ad.l_guard_made)
  F_l_guard_made : Fun K "_law_guard_made" "_law_guard_made" s_l_guard_made ad.l_guard_made ad.fd_l_guard_made
  b_l_guard_made : Binds K ad.fd_l_guard_made ["_law_plain"] []
  g_l_walker : mg "_law_walker" = some (.ref ad.l_walker)
  F_l_walker : Fun K "_law_walker" "_law_walker" s_l_walker ad.l_walker ad.fd_l_walker
  b_l_walker : Binds K ad.fd_l_walker ["_law_pen_here", "_law_rows_here"] []
  g_l_walker_made : mg "_law_walker_made" = some (.ref ad.l_walker_made)
  F_l_walker_made : Fun K "_law_walker_made" "_law_walker_made" s_l_walker_made ad.l_walker_made ad.fd_l_walker_made
  b_l_walker_made : Binds K ad.fd_l_walker_made ["_law_schema", "_law_walker_here"] []
  g_l_key : mg "_law_key" = some (.ref ad.l_key)
  F_l_key : Fun K "_law_key" "_law_key" s_l_key ad.l_key ad.fd_l_key
  b_l_key : Binds K ad.fd_l_key ["_law_rows_here", "_law_walker_here"] []
  g_l_one_part : mg "_law_one_part" = some (.ref ad.l_one_part)
  F_l_one_part : Fun K "_law_one_part" "_law_one_part" s_l_one_part ad.l_one_part ad.fd_l_one_part
  b_l_one_part : Binds K ad.fd_l_one_part ["_law_pen_here", "_law_rows_here", "_law_walker_here"] []
  g_l_turned : mg "_law_turned" = some (.ref ad.l_turned)
  F_l_turned : Fun K "_law_turned" "_law_turned" s_l_turned ad.l_turned ad.fd_l_turned
  b_l_turned : Binds K ad.fd_l_turned ["_law_pen_here", "_law_rows_here"] []
  F_law : Fun K "law" "law" s_law ad.law ad.fd_law
  mk_Kind : Mk K ad.Kind ad.Kind_init
  mk_Schema : Mk K ad.Schema ad.Schema_init
  mk_Guard : Mk K ad.Guard ad.Guard_init
  mk_Walker : Mk K ad.Walker ad.Walker_init
abbrev spInit (ad : Ad) : Sp := spInitG ad.Guard ad.BadGuard
abbrev spEq (ad : Ad) : Sp := spEqG ad.Guard
abbrev GI (K : PySem.W.Frag) (f : Addr) (fd : FuncData) := FunD K "__init__" "Guard.__init__" (defArgs s_Guard_init) (defBody s_Guard_init) (defScope s_Guard_init) [.str "none"] [("act", .str "ring"), ("by", .str "same"), ("keep", .str "none"), ("keep_by", .str "same")] f fd
abbrev ips : List Str := ["self", "mark", "act", "by", "keep", "keep_by"]
theorem kb_all (F : GI K f fd) : ∃ g, KBn K fd ips 2 ["act", "by", "keep", "keep_by"] g (fun vs zs => vs ++ zs) := by
  obtain ⟨its, mv, h⟩ := F.kbinds (ps := ips) 2 ["act", "by", "keep", "keep_by"] [] (fun us _ _ ws => us ++ ws) (by simp) (by simp) (by simp) (fun r1 _ _ r4 => r1.append r4)
    (fun T D doc pm an cdv ct us its mv ws l1 l2 l3 l4 => match us, its, mv, ws, l1, l2, l3, l4 with
      | [_, _], [_], [], [_, _, _, _], _, _, _, _ => ⟨_, rfl, rfl⟩)
  exact ⟨_, h⟩
abbrev wps : List Str := ["self", "schema", "start", "guards", "out", "anew", "limit", "frees"]
theorem kb_wk {K : PySem.W.Frag} {f : Addr} {fd : FuncData} {g o n : Addr} (F : FunD K "__init__" "Walker.__init__" (defArgs s_Walker_init) (defBody s_Walker_init) (defScope s_Walker_init) [] [("guards", .ref g), ("out", .ref o), ("anew", .ref n), ("limit", .non), ("frees", .bl true)] f fd) :
    ∃ g, KBn K fd wps 3 ["guards", "out", "anew", "limit", "frees"] g (fun vs zs => vs ++ zs) := by
  obtain ⟨mv, h⟩ := F.kbinds0 (ps := wps) 3 ["guards", "out", "anew", "limit", "frees"] [] (fun us _ ws => us ++ ws) (by simp) (by simp) (fun r1 _ r4 => r1.append r4)
    (fun D doc pm an cdv ct us mv ws l1 l3 l4 => match us, mv, ws, l1, l3, l4 with
      | [_, _, _], [], [_, _, _, _, _], _, _, _ => rfl)
  exact ⟨_, h⟩
end Wm
def PySem.W.Fast.tw13084837847319801152 : Nat := 0
def PySem.W.Fast.tw17675412388830390241 : Nat := 0
def PySem.W.Fast.tw3573413156805726438 : Nat := 0
def PySem.W.Fast.tw4516689673309700583 : Nat := 0
def PySem.W.Fast.tw18412857893554864935 : Nat := 0
def PySem.W.Fast.tw150701783700663048 : Nat := 0
def PySem.W.Fast.tw10547713972618379817 : Nat := 0
def PySem.W.Fast.tw7610015534311857578 : Nat := 0
def PySem.W.Fast.tw17441278023420892011 : Nat := 0
def PySem.W.Fast.tw12546761575194374445 : Nat := 0
def PySem.W.Fast.tw5889267905692250350 : Nat := 0
def PySem.W.Fast.tw145447446917141070 : Nat := 0
def PySem.W.Fast.tw11352825927289151695 : Nat := 0
def PySem.W.Fast.tw2884184683304721743 : Nat := 0
def PySem.W.Fast.tw280816929557054383 : Nat := 0
def PySem.W.Fast.tw6466070823356245904 : Nat := 0
def PySem.W.Fast.tw16022657241453440625 : Nat := 0
def PySem.W.Fast.tw8823346858666531858 : Nat := 0
def PySem.W.Fast.tw708305140948442162 : Nat := 0
def PySem.W.Fast.tw15001405945273822130 : Nat := 0
def PySem.W.Fast.tw10695389985866398739 : Nat := 0
def PySem.W.Fast.tw7626594695985116596 : Nat := 0
def PySem.W.Fast.tw2071308018484634100 : Nat := 0
def PySem.W.Fast.tw18123720443301427060 : Nat := 0
def PySem.W.Fast.tw12599515136027310101 : Nat := 0
def PySem.W.Fast.tw924832822571046263 : Nat := 0
def PySem.W.Fast.tw8850682693877191993 : Nat := 0
def PySem.W.Fast.tw997436828727034938 : Nat := 0
def PySem.W.Fast.tw17713868455349461243 : Nat := 0
def PySem.W.Fast.tw4350100365414728571 : Nat := 0
def PySem.W.Fast.tw8600871481927965852 : Nat := 0
def PySem.W.Fast.tw2984872172426555804 : Nat := 0
def PySem.W.Fast.tw11063759494629063837 : Nat := 0
def PySem.W.Fast.tw5470814471317525405 : Nat := 0
def PySem.W.Fast.tw14603804913857814878 : Nat := 0
def PySem.W.Fast.tw15156599734697175006 : Nat := 0
def PySem.W.Fast.tw13511105739300015583 : Nat := 0
def PySem.W.Fast.tw14684036433277558783 : Nat := 0
def PySem.W.Fast.tw17249720196083440785 : Nat := 0
open PySem PySem.W PyProof.Rows in
set_option maxRecDepth 100000 in
set_option maxHeartbeats 0 in
open_top PySem.Challenge.top_walkmarks_k38_walkers_compared for PySem.Challenge.rw_walkmarks_k38_walkers_compared
set_option compiler.extract_closed false
local macro_rules | `(tactic| walk_at "w_ne") => `(tactic| first
  | with_reducible assumption
  | ((with_reducible refine' Ne.symm ?h1); (case h1 => with_reducible assumption))
  | ((with_reducible refine' L2.ne_of_none ?h1 ?h2); (case h2 => with_reducible assumption); (case h1 => walk_at "w_hp"))
  | ((with_reducible refine' Ne.symm (L2.ne_of_none ?h1 ?h2)); (case h2 => with_reducible assumption); (case h1 => walk_at "w_hp"))
  | exact L2.ne_of (by with_reducible assumption) (by with_reducible assumption) (by intro z; cases z)
  | fail "no way")
local macro_rules | `(tactic| walk_at "w_pen") => `(tactic| first
  | with_reducible assumption
  | ((with_reducible refine' Wm.PenStep.pen ?h1); (case h1 => with_reducible assumption))
  | ((with_reducible refine' Wm.PenAt.same ?h1 ?h2); (case h2 => ((with_reducible refine' Wm.same_new ?h9); (case h9 => with_reducible assumption))); (case h1 => walk_at "w_pen"))
  | ((with_reducible refine' Wm.PenAt.same ?h1 ?h2); (case h2 => with_reducible assumption); (case h1 => walk_at "w_pen"))
  | ((with_reducible refine' Wm.PenAt.put ?h1 ?h2); (case h2 => walk_at "w_pne"); (case h1 => walk_at "w_pen"))
  | fail "no way")
local macro_rules | `(tactic| walk_at "w_pne") => `(tactic| first
  | with_reducible assumption
  | ((with_reducible refine' Wm.PenAt.ne_new ?h1 ?h2); (case h2 => with_reducible assumption); (case h1 => walk_at "w_pen"))
  | ((with_reducible refine' Wm.PenAt.ne_new ?h1 ?h2); (case h1 => with_reducible assumption); (case h2 => walk_at "w_fr"))
  | fail "no way")
local macro_rules | `(tactic| walk_at "w_fr") => `(tactic| first
  | with_reducible assumption
  | ((with_reducible refine' Wm.PenStep.free ?h1 ?h2); (case h2 => with_reducible assumption); (case h1 => walk_at "w_step"))
  | fail "no way")
local macro_rules | `(tactic| walk_at "w_step") => `(tactic| first
  | with_reducible assumption
  | ((with_reducible refine' Wm.PenStep.refl ?h1); (case h1 => walk_at "w_pen"))
  | ((with_reducible refine' Wm.PenStep.same ?h1 ?h2); (case h2 => ((with_reducible refine' Wm.same_new ?h9); (case h9 => with_reducible assumption))); (case h1 => walk_at "w_step"))
  | ((with_reducible refine' Wm.PenStep.trans ?h1 ?h2); (case h2 => with_reducible assumption); (case h1 => walk_at "w_step"))
  | ((with_reducible refine' Wm.PenStep.same ?h1 ?h2); (case h2 => with_reducible assumption); (case h1 => walk_at "w_step"))
  | ((with_reducible refine' Wm.PenStep.put ?h1 ?h2 ?h3); (case h2 => walk_at "w_pen"); (case h3 => walk_at "w_fr"); (case h1 => walk_at "w_step"))
  | fail "no way")
local macro_rules | `(tactic| walk_at "w_frs") => `(tactic| first
  | with_reducible assumption
  | ((with_reducible refine' L2.Same.free ?h1 ?h2); (case h2 => with_reducible assumption); (case h1 => walk_at "w_same"))
  | fail "no way")
local macro_rules | `(tactic| walk_at "w_same") => `(tactic| first
  | with_reducible assumption
  | with_reducible exact L2.Same.refl _
  | ((with_reducible refine' Wm.same_put ?h1 ?h2); (case h2 => walk_at "w_frs"); (case h1 => walk_at "w_same"))
  | ((with_reducible refine' L2.Same.trans ?h1 ?h2); (case h2 => with_reducible assumption); (case h1 => walk_at "w_same"))
  | fail "no way")
local macro_rules | `(tactic| walk_at "w_hp") => `(tactic| first
  | with_reducible assumption
  | with_reducible exact L2.upd_same
  | ((with_reducible refine Eq.trans (L2.upd_ne ?_) ?_); (walk_at "w_ne"); (walk_at "w_hp"))
  | ((with_reducible refine' Wm.Same.at ?h1 ?h2); (case h1 => with_reducible assumption); (case h2 => walk_at "w_hp"))
  | ((with_reducible refine' Wm.PenStep.at ?h1 ?h2 ?h4 ?h3); (case h1 => with_reducible assumption); (case h2 => walk_at "w_pen"); (case h4 => walk_at "w_hp"); (case h3 => rfl))
  | ((with_reducible refine' Wm.PenStep.atd ?h1 ?h4 ?h3); (case h1 => with_reducible assumption); (case h4 => walk_at "w_hp"); (case h3 => walk_at "w_ne"))
  | fail "no way")
local macro_rules | `(tactic| walk_at "w_sz") => `(tactic| first
  | (rw [PySem.sizeLine_eq]; exact (by decide))
  | (rw [PySem.sizeLine_eq]; simp only [List.length_map, List.length_cons, List.length_nil, List.length_append, List.length_set] at *; omega)
  | exact Wm.sl6 _ _ _ _ _ _
  | fail "no way")
local macro_rules | `(tactic| walk_at "w_side") => `(tactic| first
  | rfl
  | assumption
  | omega
  | (refine ⟨?_, ?_⟩ <;> (walk_at "w_side"))
  | decide
  | fail "no way")
local macro_rules | `(tactic| walk_at "w_val") => `(tactic| first
  | exact Wm.pk_get_start _ _ _ _ _ _ | exact Wm.pk_get_guards _ _ _ _ _ _ | exact Wm.pk_get_out _ _ _ _ _ _ | exact Wm.pk_get_anew _ _ _ _ _ _ | exact Wm.pk_get_limit _ _ _ _ _ _ | exact Wm.pk_get_frees _ _ _ _ _ _
  | exact Wm.wk_get_guards _ _ _ _ _ _ | exact Wm.wk_get_out _ _ _ _ _ _ | exact Wm.wk_get_anew _ _ _ _ _ _ | exact Wm.wk_get_limit _ _ _ _ _ _ | exact Wm.wk_get_frees _ _ _ _ _ _ | exact Wm.wk_get_start _ _ _ _ _ _
  | exact Wm.pk_get_cells _ _ _ _ _ _ | exact Wm.pk_get_at _ _ _ _ _ _ | exact Wm.pk_get_rest _ _ _ _ _ _ | exact Wm.pk_get_digits _ _ _ _ _ _ | exact Wm.pk_get_mix _ _ _ _ _ _ | exact Wm.pk_get_turn _ _ _ _ _ _
  | rfl
  | fail "no way")
local macro_rules | `(tactic| walk_at "w_put") => `(tactic| first
  | exact Wm.wk_put_limit _ _ _ _ _ _ _
  | exact Wm.pk_put_at _ _ _ _ _ _ _ | exact Wm.pk_put_rest _ _ _ _ _ _ _ | exact Wm.pk_put_digits _ _ _ _ _ _ _ | exact Wm.pk_put_mix _ _ _ _ _ _ _ | exact Wm.pk_put_turn _ _ _ _ _ _ _
  | rfl
  | fail "no way")
local macro_rules | `(tactic| walk_at "w_putf") => `(tactic| rfl)
local macro_rules | `(tactic| walk_at "w_d") => `(tactic| (refine Wm.r_dispE _ _ (by walk_at "w_hp") (by rfl) (by first | decide | simp) (by rfl) ?_))
local macro_rules | `(tactic| walk_at "w_len") => `(tactic| first
  | (rw [PySem.sizeLine_eq]; (try simp only [PySem.Str.length_append] at *); (try simp only [show (PySem.Str.ofString " ").length = 1 from rfl, show (PySem.Str.ofString ", ").length = 2 from rfl, show (PySem.Str.ofString " of ").length = 4 from rfl, show (PySem.Str.ofString "walk ").length = 5 from rfl, show (PySem.Str.ofString "limit ").length = 6 from rfl, show (PySem.Str.ofString "guard ").length = 6 from rfl, show (PySem.Str.ofString "out ").length = 4 from rfl, show (PySem.Str.ofString "anew ").length = 5 from rfl, show (PySem.Str.ofString "out").length = 3 from rfl, show (PySem.Str.ofString "anew").length = 4 from rfl, show PySem.Str.empty.length = 0 from rfl]); omega)
  | fail "no way")
local macro_rules | `(tactic| walk_at "w_x") => `(tactic| first
  | ((with_reducible refine' Wm.r_split ?h1 ?h2 ?_); (case h1 => rfl); (case h2 => (rw [PySem.sizeLine_eq]; omega)); (intro q H' nq sq eq))
  | with_reducible refine Wm.r_tyS ?_
  | ((with_reducible refine' Wm.r_slT ?h1 ?h2 ?_); (case h1 => first | (refine L2.SqT.of ?_; walk_at "w_hp") | assumption); (case h2 => decide); (intro q H' nq sq eq))
  | ((with_reducible refine' Wm.r_slS ?h1 ?_); (case h1 => (rw [PySem.sizeLine_eq]; omega)))
  | with_reducible refine Wm.r_fmt ?_
  | ((with_reducible refine' Wm.r_fmtS ?h1 ?_); (case h1 => (rw [PySem.sizeLine_eq]; omega)))
  | with_reducible refine Wm.r_joinF ?_
  | with_reducible refine Wm.r_js0 ?_
  | with_reducible refine Wm.r_jsC ?_
  | ((with_reducible refine' Wm.r_jsE ?h1 ?_); (case h1 => walk_at "w_len"))
  | with_reducible refine Wm.r_strBk ?_
  | with_reducible refine Wm.r_yes ?_
  | with_reducible refine Wm.ite_ns ?_
  | with_reducible refine Wm.r_starA ?_
  | with_reducible refine Wm.r_dc ?_
  | ((with_reducible refine' Wm.r_makeL ?h1 ?_); (case h1 => rfl))
  | with_reducible refine Wm.r_ifW ?_
  | with_reducible refine Wm.r_wCmp ?_
  | with_reducible refine Wm.r_wNm ?_
  | with_reducible refine Wm.r_wE ?_
  | with_reducible refine Wm.ite_es ?_
  | ((with_reducible refine' Wm.r_ixTK ?h1 ?h2 ?_); (case h1 => walk_at "w_hp"); (case h2 => rfl))
  | ((with_reducible refine' Wm.r_addS ?h1 ?_); (case h1 => walk_at "w_len"))
  | with_reducible refine Wm.r_isNn ?_
  | ((with_reducible refine' Wm.r_lenS ?h1 ?_); (case h1 => (rw [PySem.sizeLine_eq]; omega)))
  | with_reducible refine Wm.r_notNn ?_
  | with_reducible refine Wm.r_cmeth ?_
  | with_reducible refine Wm.r_cmethT ?_
  | with_reducible refine Wm.r_cmethK ?_
  | ((with_reducible refine' Wm.r_makeKL ?h1 ?_); (case h1 => rfl))
  | with_reducible refine Wm.r_is ?_
  | with_reducible refine Wm.r_isK ?_
  | with_reducible refine Wm.r_ie ?_
  | with_reducible refine Wm.r_iv ?_
  | with_reducible refine Wm.r_iky ?_
  | with_reducible refine Wm.r_chain ?_
  | with_reducible refine Wm.r_lenSet ?_
  | with_reducible refine Wm.r_dIn ?_
  | with_reducible refine Wm.r_inSign ?_
  | ((with_reducible refine' Wm.r_lenTK ?h1 ?_); (case h1 => walk_at "w_hp"))
  | ((with_reducible refine' Wm.r_listTK ?h1 ?_); (case h1 => walk_at "w_hp"); (intro q H' nq sq eq))
  | fail "no way")
local macro_rules | `(tactic| walk_at "w_s") => `(tactic| first
  | with_reducible refine L2.iteT ?_
  | with_reducible refine L2.iteF ?_
  | with_reducible refine Wm.iteNF ?_
  | with_reducible refine Wm.iteNT ?_
  | with_reducible refine Wm.r_seq ?_
  | with_reducible refine Wm.r_next ?_
  | with_reducible refine Wm.r_asg ?_
  | ((with_reducible refine' Wm.r_gname ?h1 ?_); (case h1 => (simp only [List.set_cons_succ, List.set_cons_zero]; rfl)))
  | with_reducible refine Wm.r_ret ?_
  | with_reducible refine Wm.r_drop ?_
  | with_reducible refine Wm.r_ifs ?_
  | ((with_reducible refine' Wm.r_var ?h1 ?_); (case h1 => rfl))
  | with_reducible refine Wm.r_c ?_
  | with_reducible refine Wm.r_op ?_
  | with_reducible refine Wm.r_i0 ?_
  | ((with_reducible refine' Wm.r_i ?h1 ?_); (case h1 => walk_at "w_arith"))
  | with_reducible refine Wm.r_eqi ?_
  | with_reducible refine Wm.r_eqs ?_
  | with_reducible refine Wm.r_eqb ?_
  | with_reducible refine Wm.r_nei ?_
  | with_reducible refine Wm.r_nes ?_
  | with_reducible refine Wm.r_neb ?_
  | with_reducible refine Wm.r_test ?_
  | with_reducible refine Wm.r_tb ?_
  | with_reducible refine Wm.r_bl ?_
  | with_reducible refine Wm.r_and ?_
  | with_reducible refine Wm.r_or ?_
  | with_reducible refine Wm.r_not ?_
  | with_reducible refine Wm.r_andV ?_
  | with_reducible refine Wm.r_orV ?_
  | with_reducible refine Wm.r_notV ?_
  | with_reducible refine Wm.r_if ?_
  | with_reducible refine Wm.r_nil ?_
  | with_reducible refine Wm.r_cons ?_
  | with_reducible refine Wm.r_cb ?_
  | with_reducible refine Wm.r_call ?_
  | with_reducible refine Wm.r_dget ?_
  | with_reducible refine Wm.r_dput ?_
  | with_reducible refine Wm.r_int1 ?_
  | with_reducible refine Wm.r_lst ?_
  | ((with_reducible refine' Wm.r_lstE ?h1 ?_); (case h1 => walk_at "w_sz"); (intro q H' nq sq eq))
  | ((with_reducible refine' Wm.r_tupE ?h1 ?_); (case h1 => walk_at "w_sz"); (intro q H' nq sq eq))
  | with_reducible refine Wm.r_tup ?_
  | with_reducible refine Wm.r_for ?_
  | with_reducible refine Wm.r_il ?_
  | with_reducible refine Wm.r_it ?_
  | with_reducible refine Wm.r_rng1 ?_
  | ((with_reducible refine Wm.r_disp ?_); (intro q H' nq sq eq))
  | with_reducible refine Wm.r_pc ?_
  | with_reducible refine Wm.r_pn ?_
  | with_reducible refine Wm.r_un ?_
  | ((with_reducible refine' Wm.r_cat ?h1 ?h2 ?h3 ?_); (case h1 => walk_at "w_hp"); (case h2 => walk_at "w_hp"); (case h3 => walk_at "w_sz"); (intro q H' nq sq eq))
  | with_reducible refine Wm.r_erV ?_
  | ((with_reducible refine' Wm.r_erVE ?h1 ?h2 ?h3 ?_); (case h1 => rfl); (case h2 => exact Nat.le_of_ble_eq_true rfl); (case h3 => (intro z; cases z)); (intro a d H' na sa ea ed))
  | ((with_reducible refine Wm.r_erVE0 ?_); (intro a H' na sa ea))
  | with_reducible refine Wm.r_erF ?_
  | ((with_reducible refine' Wm.r_erFK ?h1 ?h2 ?h3 ?h4 ?h5 ?_); (case h1 => walk_at "w_hp"); (case h4 => walk_at "w_hp"); (case h2 => assumption); (case h3 => assumption); (case h5 => rfl))
  | with_reducible refine Wm.r_slice ?_
  | with_reducible refine Wm.r_nopart ?_
  | with_reducible refine Wm.r_part ?_
  | with_reducible refine Wm.r_partI ?_
  | ((with_reducible refine' Wm.r_slL ?h1 ?_); (case h1 => walk_at "w_hp"); (intro q H' nq sq eq))
  | with_reducible refine Wm.r_meth ?_
  | with_reducible refine Wm.r_methT ?_
  | ((with_reducible refine' Wm.r_methK ?h1 ?h2 ?_); (case h1 => walk_at "w_hp"); (case h2 => rfl))
  | with_reducible refine Wm.r_lc ?_
  | ((with_reducible refine' Wm.r_addS ?h1 ?_); (case h1 => walk_at "w_sz"))
  | with_reducible refine Wm.r_cval ?_
  | ((with_reducible refine' Wm.r_cvalK ?h1 ?h2 ?_); (case h1 => assumption); (case h2 => assumption))
  | ((with_reducible refine' Wm.r_glst ?h1 ?h2 ?_); (case h1 => walk_at "w_hp"); (case h2 => rfl))
  | with_reducible refine Wm.r_makeKS ?_
  | with_reducible refine Wm.r_makeK ?_
  | with_reducible refine Wm.r_make ?_
  | with_reducible refine Wm.r_mkQ ?_
  | ((with_reducible refine' Wm.r_mkE ?h1 ?h2 ?_); (case h1 => rfl); (case h2 => rfl); (intro x dx H' nx sx ex))
  | ((with_reducible refine Wm.r_mk1E ?_); (intro x dx H' nx sx ex))
  | with_reducible refine Wm.r_xf ?_
  | ((with_reducible refine' Wm.r_xfK ?h1 ?h2 ?_); (case h1 => walk_at "w_hp"); (case h2 => rfl))
  | with_reducible refine Wm.r_raiseEr ?_
  | with_reducible refine Wm.r_erE0 ?_
  | ((with_reducible refine' Wm.r_erE ?h1 ?h2 ?h3 ?_); (case h1 => rfl); (case h2 => exact Nat.le_of_ble_eq_true rfl); (case h3 => (intro z; cases z)); (intro q H' nq sq eq))
  | with_reducible refine Wm.r_neg ?_
  | ((with_reducible refine Wm.r_dnew ?_); (intro q H' nq sq eq))
  | with_reducible refine Wm.r_fld ?_
  | with_reducible refine Wm.r_fldS ?_
  | with_reducible refine Wm.r_gsub ?_
  | with_reducible refine Wm.r_gcons ?_
  | with_reducible refine Wm.r_gnil ?_
  | with_reducible refine Wm.r_bm ?_
  | with_reducible refine Wm.r_bm0 ?_
  | ((with_reducible refine' Wm.r_fldK ?h1 ?h2 ?h3 ?h4 ?_); (case h1 => walk_at "w_hp"); (case h2 => assumption); (case h3 => assumption); (case h4 => rfl))
  | ((with_reducible refine' Wm.r_fldP ?h1 ?h2 ?h3 ?h4 ?h5 ?_); (case h1 => walk_at "w_hp"); (case h2 => assumption); (case h3 => assumption); (case h4 => exact Nat.le_of_ble_eq_true rfl); (case h5 => walk_at "w_putf"))
  | ((with_reducible refine' Wm.r_setL ?h1 ?h2 ?h3 ?_); (case h1 => walk_at "w_hp"); (case h2 => rfl); (case h3 => (simp only [Int.reduceToNat, Int.toNat_one, Int.toNat_zero, List.set_cons_succ, List.set_cons_zero]; rfl)))
  | ((with_reducible refine' Wm.r_gtupK ?h1 ?h2 ?_); (case h1 => walk_at "w_hp"); (case h2 => rfl))
  | ((with_reducible refine' Wm.r_tyLK ?h1 ?_); (case h1 => walk_at "w_hp"))
  | ((with_reducible refine' Wm.r_append ?h1 ?h2 ?_); (case h1 => walk_at "w_hp"); (case h2 => walk_at "w_sz"))
  | ((with_reducible refine' Wm.r_listLK ?h1 ?_); (case h1 => walk_at "w_hp"); (intro q H' nq sq eq))
  | ((with_reducible refine' Wm.r_ixLK ?h1 ?h2 ?_); (case h1 => walk_at "w_hp"); (case h2 => rfl))
  | ((with_reducible refine' Wm.r_dgetK ?h1 ?h2 ?_); (case h1 => walk_at "w_hp"); (case h2 => walk_at "w_val"))
  | ((with_reducible refine' Wm.r_dputU ?h1 ?h2 ?_); (case h1 => walk_at "w_put"); (case h2 => walk_at "w_sz"))
  | ((with_reducible refine' Wm.r_dputK ?h1 ?h2 ?h3 ?_); (case h1 => walk_at "w_hp"); (case h2 => walk_at "w_put"); (case h3 => walk_at "w_sz"))
  | ((with_reducible refine' Wm.r_lenK ?h1 ?_); (case h1 => walk_at "w_hp"))
  | walk_at "w_x"
  | fail "no way")
local macro_rules | `(tactic| walk_at "w_arith") => `(tactic| first
  | assumption
  | exact Wm.pow18
  | exact Wm.wide100 (by assumption) (by assumption)
  | omega
  | exact Or.inr ⟨by decide, by decide⟩
  | exact Or.inl ⟨by omega, by omega⟩
  | exact ⟨by decide, by decide⟩
  | exact ⟨by decide, by decide, by decide⟩
  | fail "no way")
local macro_rules | `(tactic| walk_at "w_go") => `(tactic| repeat walk_at "w_s")
local macro_rules | `(tactic| walk_at "w_br") => `(tactic| ((with_reducible refine Wm.ite_and (fun hbr => ?_) (fun hbr => ?_)) <;> (try simp only [decide_eq_true_eq, decide_eq_false_iff_not, Bool.not_eq_true', Bool.not_eq_false', bne_iff_ne, Bool.not_eq_true, Bool.not_eq_false] at hbr)))
local macro_rules | `(tactic| walk_at "w_leaf") => `(tactic| first
  | k_is
  | kit_is
  | ks_is
  | kx_is
  | rfl
  | decide +kernel
  | fail "no leaf")
local macro_rules | `(tactic| walk_at "w_rel") => `(tactic| first
  | exact ⟨_, rfl⟩
  | exact rfl
  | fail "no way")
local macro_rules | `(tactic| walk_at "w_vals") => `(tactic| (repeat (first | exact PySem.Paired.nil | refine PySem.Paired.cons ⟨_, rfl⟩ ?_ | refine PySem.Paired.cons rfl ?_)))
local macro_rules | `(tactic| walk_at "w_sp") => `(tactic| first
  | with_reducible refine L2.iteT ?_
  | with_reducible refine L2.iteF ?_
  | with_reducible refine Wm.iteNF ?_
  | with_reducible refine Wm.iteNT ?_
  | with_reducible refine Wm.r_seq ?_
  | with_reducible refine Wm.r_next ?_
  | with_reducible refine Wm.r_asg ?_
  | ((with_reducible refine' Wm.r_gname ?h1 ?_); (case h1 => (simp only [List.set_cons_succ, List.set_cons_zero]; rfl)))
  | with_reducible refine Wm.r_ret ?_
  | with_reducible refine Wm.r_drop ?_
  | with_reducible refine Wm.r_ifs ?_
  | ((with_reducible refine' Wm.r_var ?h1 ?_); (case h1 => rfl))
  | with_reducible refine Wm.r_c ?_
  | with_reducible refine Wm.r_op ?_
  | with_reducible refine Wm.r_i0 ?_
  | ((with_reducible refine' Wm.r_i ?h1 ?_); (case h1 => walk_at "w_arith"))
  | with_reducible refine Wm.r_eqi ?_
  | with_reducible refine Wm.r_eqs ?_
  | with_reducible refine Wm.r_eqb ?_
  | with_reducible refine Wm.r_nei ?_
  | with_reducible refine Wm.r_nes ?_
  | with_reducible refine Wm.r_neb ?_
  | with_reducible refine Wm.r_test ?_
  | with_reducible refine Wm.r_tb ?_
  | with_reducible refine Wm.r_bl ?_
  | with_reducible refine Wm.r_not ?_
  | with_reducible refine Wm.r_notV ?_
  | with_reducible refine Wm.r_if ?_
  | with_reducible refine Wm.r_nil ?_
  | with_reducible refine Wm.r_cons ?_
  | with_reducible refine Wm.r_cb ?_
  | with_reducible refine Wm.r_call ?_
  | with_reducible refine Wm.r_dget ?_
  | with_reducible refine Wm.r_dput ?_
  | with_reducible refine Wm.r_int1 ?_
  | with_reducible refine Wm.r_lst ?_
  | ((with_reducible refine' Wm.r_lstE ?h1 ?_); (case h1 => walk_at "w_sz"); (intro q H' nq sq eq))
  | ((with_reducible refine' Wm.r_tupE ?h1 ?_); (case h1 => walk_at "w_sz"); (intro q H' nq sq eq))
  | with_reducible refine Wm.r_tup ?_
  | with_reducible refine Wm.r_for ?_
  | with_reducible refine Wm.r_il ?_
  | with_reducible refine Wm.r_it ?_
  | with_reducible refine Wm.r_rng1 ?_
  | ((with_reducible refine Wm.r_disp ?_); (intro q H' nq sq eq))
  | with_reducible refine Wm.r_pc ?_
  | with_reducible refine Wm.r_pn ?_
  | with_reducible refine Wm.r_un ?_
  | ((with_reducible refine' Wm.r_cat ?h1 ?h2 ?h3 ?_); (case h1 => walk_at "w_hp"); (case h2 => walk_at "w_hp"); (case h3 => walk_at "w_sz"); (intro q H' nq sq eq))
  | with_reducible refine Wm.r_erV ?_
  | ((with_reducible refine' Wm.r_erVE ?h1 ?h2 ?h3 ?_); (case h1 => rfl); (case h2 => exact Nat.le_of_ble_eq_true rfl); (case h3 => (intro z; cases z)); (intro a d H' na sa ea ed))
  | ((with_reducible refine Wm.r_erVE0 ?_); (intro a H' na sa ea))
  | with_reducible refine Wm.r_erF ?_
  | ((with_reducible refine' Wm.r_erFK ?h1 ?h2 ?h3 ?h4 ?h5 ?_); (case h1 => walk_at "w_hp"); (case h4 => walk_at "w_hp"); (case h2 => assumption); (case h3 => assumption); (case h5 => rfl))
  | with_reducible refine Wm.r_slice ?_
  | with_reducible refine Wm.r_nopart ?_
  | with_reducible refine Wm.r_part ?_
  | with_reducible refine Wm.r_partI ?_
  | ((with_reducible refine' Wm.r_slL ?h1 ?_); (case h1 => walk_at "w_hp"); (intro q H' nq sq eq))
  | with_reducible refine Wm.r_meth ?_
  | with_reducible refine Wm.r_methT ?_
  | ((with_reducible refine' Wm.r_methK ?h1 ?h2 ?_); (case h1 => walk_at "w_hp"); (case h2 => rfl))
  | with_reducible refine Wm.r_lc ?_
  | ((with_reducible refine' Wm.r_addS ?h1 ?_); (case h1 => walk_at "w_sz"))
  | with_reducible refine Wm.r_cval ?_
  | ((with_reducible refine' Wm.r_cvalK ?h1 ?h2 ?_); (case h1 => assumption); (case h2 => assumption))
  | ((with_reducible refine' Wm.r_glst ?h1 ?h2 ?_); (case h1 => walk_at "w_hp"); (case h2 => rfl))
  | with_reducible refine Wm.r_makeKS ?_
  | with_reducible refine Wm.r_makeK ?_
  | with_reducible refine Wm.r_make ?_
  | with_reducible refine Wm.r_mkQ ?_
  | ((with_reducible refine' Wm.r_mkE ?h1 ?h2 ?_); (case h1 => rfl); (case h2 => rfl); (intro x dx H' nx sx ex))
  | ((with_reducible refine Wm.r_mk1E ?_); (intro x dx H' nx sx ex))
  | with_reducible refine Wm.r_xf ?_
  | ((with_reducible refine' Wm.r_xfK ?h1 ?h2 ?_); (case h1 => walk_at "w_hp"); (case h2 => rfl))
  | with_reducible refine Wm.r_raiseEr ?_
  | with_reducible refine Wm.r_erE0 ?_
  | ((with_reducible refine' Wm.r_erE ?h1 ?h2 ?h3 ?_); (case h1 => rfl); (case h2 => exact Nat.le_of_ble_eq_true rfl); (case h3 => (intro z; cases z)); (intro q H' nq sq eq))
  | with_reducible refine Wm.r_neg ?_
  | ((with_reducible refine Wm.r_dnew ?_); (intro q H' nq sq eq))
  | with_reducible refine Wm.r_fld ?_
  | with_reducible refine Wm.r_fldS ?_
  | with_reducible refine Wm.r_gsub ?_
  | with_reducible refine Wm.r_gcons ?_
  | with_reducible refine Wm.r_gnil ?_
  | with_reducible refine Wm.r_bm ?_
  | with_reducible refine Wm.r_bm0 ?_
  | ((with_reducible refine' Wm.r_fldK ?h1 ?h2 ?h3 ?h4 ?_); (case h1 => walk_at "w_hp"); (case h2 => assumption); (case h3 => assumption); (case h4 => rfl))
  | ((with_reducible refine' Wm.r_fldP ?h1 ?h2 ?h3 ?h4 ?h5 ?_); (case h1 => walk_at "w_hp"); (case h2 => assumption); (case h3 => assumption); (case h4 => exact Nat.le_of_ble_eq_true rfl); (case h5 => walk_at "w_putf"))
  | ((with_reducible refine' Wm.r_setL ?h1 ?h2 ?h3 ?_); (case h1 => walk_at "w_hp"); (case h2 => rfl); (case h3 => (simp only [Int.reduceToNat, Int.toNat_one, Int.toNat_zero, List.set_cons_succ, List.set_cons_zero]; rfl)))
  | ((with_reducible refine' Wm.r_gtupK ?h1 ?h2 ?_); (case h1 => walk_at "w_hp"); (case h2 => rfl))
  | ((with_reducible refine' Wm.r_tyLK ?h1 ?_); (case h1 => walk_at "w_hp"))
  | ((with_reducible refine' Wm.r_append ?h1 ?h2 ?_); (case h1 => walk_at "w_hp"); (case h2 => walk_at "w_sz"))
  | ((with_reducible refine' Wm.r_listLK ?h1 ?_); (case h1 => walk_at "w_hp"); (intro q H' nq sq eq))
  | ((with_reducible refine' Wm.r_ixLK ?h1 ?h2 ?_); (case h1 => walk_at "w_hp"); (case h2 => rfl))
  | ((with_reducible refine' Wm.r_dgetK ?h1 ?h2 ?_); (case h1 => walk_at "w_hp"); (case h2 => walk_at "w_val"))
  | ((with_reducible refine' Wm.r_dputU ?h1 ?h2 ?_); (case h1 => walk_at "w_put"); (case h2 => walk_at "w_sz"))
  | ((with_reducible refine' Wm.r_dputK ?h1 ?h2 ?h3 ?_); (case h1 => walk_at "w_hp"); (case h2 => walk_at "w_put"); (case h3 => walk_at "w_sz"))
  | ((with_reducible refine' Wm.r_lenK ?h1 ?_); (case h1 => walk_at "w_hp"))
  | walk_at "w_x"
  | fail "no way")
local macro_rules | `(tactic| walk_at "w_gp") => `(tactic| repeat walk_at "w_sp")
local macro_rules | `(tactic| walk_at "w_big") => `(tactic| first
  | kernel_rfl
  | rfl
  | fail "no leaf")
set_option compiler.extract_closed true
namespace Wm
open PySem L2

section
variable {P : Program} {w : World} {K : PySem.W.Frag} {mg : Str → Option Value} {base : Heap} {ad : Ad}
theorem ok_l_take (T : Txt P K mg ad) : FnOk P w K mg base (L2.CX P w) 2 ad.l_take ad.fd_l_take ["_law_pen_here", "_law_bound"] spTake := by
  refine T.F_l_take.okX sc_l_take (fun vs H Q E h => ?_) (fun cdv A outer s H vs Q E hr h => ?_)
  · obtain ⟨p, c, b, rfl, _⟩ := h
    rfl
  obtain ⟨p, c, b, rfl, ⟨ns, a, r, g, m, t, hp, hc, ha, hm, hm2⟩, hb, hb2, k⟩ := h
  have hcp : c ≠ p := ne_of hc hp (by intro z; cases z)
  refine ⟨_, (pss_cons (ps_dput (hu_of hr) (pv 0) pe_str (pe_op op_add (pe_dget (hu_of hr) (pv 0) pe_str (fun _ _ => rfl)) pe_int) rfl)
    (pss_cons (ps_if (PW.pt (pw_and (pt_cmpR op_eq (pe_dget (hu_of hr) (pv 0) pe_str (fun _ _ => rfl)) pe_int (nomark _)) (pw_and1 (pt_cmpR op_lt (pe_dget (hu_of hr) (pv 0) pe_str (fun _ _ => rfl)) (pe_callB c_len (by rfl) T.n_len PySem.boot_len (pa_cons (pe_dget (hu_of hr) (pv 0) pe_str (fun _ _ => rfl)) pa_nil)) (nomark _))))) (pss_cons (ps_set (i := 2) sc_l_take.nd rfl (Or.inl rfl) (pe_ix ix_list (pe_dget (hu_of hr) (pv 0) pe_str (fun _ _ => rfl)) (pe_dget (hu_of hr) (pv 0) pe_str (fun _ _ => rfl)) (fun _ _ => rfl)))
    (pss_cons (ps_dput (hu_of hr) (pv 0) pe_str (pe_op op_add (pe_dget (hu_of hr) (pv 0) pe_str (fun _ _ => rfl)) pe_int) rfl)
    (pss_cons (ps_if (pt_cmpR op_lt (pv 2) (pe_op op_pow pe_int pe_int) (nomark _)) (pss_cons (ps_set (i := 3) sc_l_take.nd rfl (Or.inl rfl) (pe_op op_mod (pe_callTy c_int1 (by rfl) T.n_int (by decide +kernel) (pa_cons (pv 2) pa_nil)) pe_int))
    (pss_cons (ps_set (i := 3) sc_l_take.nd rfl (Or.inl rfl) (pe_op op_mod (pe_callTy c_int1 (by rfl) T.n_int (by decide +kernel) (pa_cons (pe_op op_add (pe_op op_add (pe_op op_mul (pv 3) pe_int) (pe_dget (hu_of hr) (pv 0) pe_str (fun _ _ => rfl))) (pe_op op_mul (pe_dget (hu_of hr) (pv 0) pe_str (fun _ _ => rfl)) pe_int)) pa_nil)) pe_int))
    (pss_cons (ps_dput (hu_of hr) (pv 0) pe_str (pe_op op_mod (pe_callTy c_int1 (by rfl) T.n_int (by decide +kernel) (pa_cons (pe_op op_add (pe_op op_add (pe_op op_mul (pe_dget (hu_of hr) (pv 0) pe_str (fun _ _ => rfl)) pe_int) (pv 3)) pe_int) pa_nil)) pe_int) rfl)
    (pss_one (ps_ret (pe_op op_mod (pe_op op_fdiv (pe_op op_mod (pe_callTy c_int1 (by rfl) T.n_int (by decide +kernel) (pa_cons (pe_op op_add (pe_op op_mul (pv 3) (pv 3)) (pe_dget (hu_of hr) (pv 0) pe_str (fun _ _ => rfl))) pa_nil)) pe_int) pe_int) (pv 1))))))) pss_nil)
    (pss_cons (ps_dput (hu_of hr) (pv 0) pe_str (pe_op op_sub (pv 2) (pe_op op_pow pe_int pe_int)) rfl)
    (pss_one (ps_dput (hu_of hr) (pv 0) pe_str pe_int rfl)))))) pss_nil)
    (pss_cons (ps_if (pt_cmpR op_gt (pe_dget (hu_of hr) (pv 0) pe_str (fun _ _ => rfl)) pe_int (nomark _)) (pss_cons (ps_dput (hu_of hr) (pv 0) pe_str (pe_op op_sub (pe_dget (hu_of hr) (pv 0) pe_str (fun _ _ => rfl)) pe_int) rfl)
    (pss_cons (ps_set (i := 4) sc_l_take.nd rfl (Or.inl rfl) (pe_op op_mod (pe_callTy c_int1 (by rfl) T.n_int (by decide +kernel) (pa_cons (pe_dget (hu_of hr) (pv 0) pe_str (fun _ _ => rfl)) pa_nil)) (pv 1)))
    (pss_cons (ps_dput (hu_of hr) (pv 0) pe_str (pe_op op_fdivW (pe_dget (hu_of hr) (pv 0) pe_str (fun _ _ => rfl)) (pv 1)) rfl)
    (pss_one (ps_ret (pv 4)))))) pss_nil)
    (pss_cons (ps_dput (hu_of hr) (pv 0) pe_str (pe_op op_mod (pe_callTy c_int1 (by rfl) T.n_int (by decide +kernel) (pa_cons (pe_op op_add (pe_op op_add (pe_op op_mul (pe_dget (hu_of hr) (pv 0) pe_str (fun _ _ => rfl)) pe_int) (pe_op op_mul (pe_dget (hu_of hr) (pv 0) pe_str (fun _ _ => rfl)) pe_int)) pe_int) pa_nil)) pe_int) rfl)
    (pss_one (ps_ret (pe_op op_mod (pe_op op_fdiv (pe_op op_mod (pe_callTy c_int1 (by rfl) T.n_int (by decide +kernel) (pa_cons (pe_op op_add (pe_op op_mul (pe_dget (hu_of hr) (pv 0) pe_str (fun _ _ => rfl)) (pe_dget (hu_of hr) (pv 0) pe_str (fun _ _ => rfl))) (pe_dget (hu_of hr) (pv 0) pe_str (fun _ _ => rfl))) pa_nil)) pe_int) pe_int) (pv 1)))))))), ?_⟩
  rw [show L2.start ["_law_pen_here", "_law_bound", "_law_cell", "_law_mixed", "_law_digit"] [V.ref p, V.int b] = [some (V.ref p), some (V.int b), none, none, none] from rfl]
  have fin : ∀ (x a r g m t : Int), 0 ≤ a → 0 ≤ m → m < 2147483648 → Q (.int (x % b)) (upd H p (.dK (pk c a r g m t))) := fun x a r g m t h1 h2 h3 => k _ _ (Int.emod_nonneg _ (by omega)) (Int.emod_lt_of_pos _ hb) (pen_put hc hcp h1 h2 h3)
  have h1 : ∀ x : Int, 0 ≤ x % 2147483629 ∧ x % 2147483629 < 2147483629 := fun x => by omega
  have h2 : ∀ x : Int, 0 ≤ x % 2147483647 ∧ x % 2147483647 < 2147483647 := fun x => by omega
  walk_at "w_go"
  walk_at "w_br"
  · walk_at "w_go"
    walk_at "w_br"
    · walk_at "w_go"
      obtain ⟨z, _, hz⟩ := at_int ha (by assumption)
      refine r_ixL (SqL.of (by walk_at "w_hp")) hz ?_
      walk_at "w_go"
      walk_at "w_br"
      · walk_at "w_go"
        exact fin _ _ _ _ _ _ (by omega) (by omega) (by omega)
      · walk_at "w_go"
        walk_at "w_br"
        · walk_at "w_go"
          exact fin _ _ _ _ _ _ (by omega) (by omega) (by omega)
        · omega
    · walk_at "w_go"
      walk_at "w_br"
      · omega
      · walk_at "w_go"
        exact fin _ _ _ _ _ _ (by omega) (by omega) (by omega)
  · walk_at "w_go"
    walk_at "w_br"
    · walk_at "w_go"
      exact fin _ _ _ _ _ _ (by omega) (by omega) (by omega)
    · walk_at "w_go"
      exact fin _ _ _ _ _ _ (by omega) (by omega) (by omega)
theorem ok_l_bit (T : Txt P K mg ad) : FnOk P w K mg base (L2.CX P w) 3 ad.l_bit ad.fd_l_bit ["_law_pen_here", "_law_bound"] spBit := by
  refine T.F_l_bit.okX sc_l_bit (fun vs H Q E h => ?_) (fun cdv A outer s H vs Q E hr h => ?_)
  · obtain ⟨p, c, b, rfl, _⟩ := h
    rfl
  obtain ⟨p, c, b, rfl, hp, hb, hb2, k⟩ := h
  refine ⟨_, (pss_one (ps_ret (pe_cmpR op_eq (pe_call (ok_l_take T) hr rfl T.g_l_take T.F_l_take.kp T.b_l_take .nil passL (pa_cons (pv 0) (pa_cons (pv 1) pa_nil))) pe_int (nomark _)))), ?_⟩
  rw [show L2.start ["_law_pen_here", "_law_bound"] [V.ref p, V.int b] = [some (V.ref p), some (V.int b)] from rfl]
  walk_at "w_go"
  refine r_take hp hb hb2 (fun r H' h0 h1 hs => ?_)
  walk_at "w_go"
  exact k _ _ hs
theorem ok_l_pen (T : Txt P K mg ad) : FnOk P w K mg base (L2.CX P w) 2 ad.l_pen ad.fd_l_pen ["_law_script"] (spPen K) := by
  refine T.F_l_pen.okX sc_l_pen (fun vs H Q E h => ?_) (fun cdv A outer s H vs Q E hr h => ?_)
  · obtain ⟨a, ns, rfl, _⟩ := h
    rfl
  obtain ⟨a, ns, rfl, hS, k⟩ := h
  refine ⟨_, (pss_cons (ps_set (i := 1) sc_l_pen.nd rfl (Or.inl rfl) pe_int)
    (pss_cons (ps_for (passes_of rfl) rfl (pi_list (pv 0)) (pg_name (i := 2) sc_l_pen.nd rfl (Or.inl rfl)) (pss_one (ps_set (i := 1) sc_l_pen.nd rfl (Or.inl rfl) (pe_op op_mod (pe_callTy c_int1 (by rfl) T.n_int (by decide +kernel) (pa_cons (pe_op op_add (pe_op op_mul (pv 1) pe_int) (pv 2)) pa_nil)) pe_int))))
    (pss_one (ps_ret (pe_disp (pps_cons pe_str (pe_callTy c_list (by rfl) T.n_list (by decide +kernel) (pa_cons (pv 0) pa_nil)) (pps_cons pe_str pe_int (pps_cons pe_str pe_int (pps_cons pe_str pe_int (pps_cons pe_str (pv 1) (pps_cons pe_str pe_int pps_nil)))))) (by rfl) (by rfl) (fun z => by cases z) (by decide)))))), ?_⟩
  rw [show L2.start ["_law_script", "_law_total", "_law_cell"] [V.ref a] = [some (V.ref a), none, none] from rfl]
  walk_at "w_go"
  refine r_ilK hS (for_list (K := K) (a := a) (xs := ns.map V.int) (fun i σ H' => H' = H ∧ ∃ (t : Int) (v : Option V), σ = [some (.ref a), some (.int t), v] ∧ 0 ≤ t ∧ t < 2147483629) ⟨rfl, 17, none, rfl, by decide, by decide⟩ ?_ ?_ ?_)
  · rintro i σ H' _ ⟨rfl, _⟩
    exact hS
  · rintro i x σ H' hi ⟨rfl, t, v, rfl, h0, h1⟩
    obtain ⟨z, rfl⟩ : ∃ z, x = V.int z := by
      rw [List.getElem?_map] at hi
      cases e : ns[i]? with
      | none => rw [e] at hi; cases hi
      | some u => rw [e] at hi; exact ⟨u, (Option.some.inj hi).symm⟩
    walk_at "w_go"
    exact ⟨rfl, _, _, rfl, by omega, by omega⟩
  · rintro σ H' ⟨rfl, t, v, rfl, h0, h1⟩
    walk_at "w_go"
    rename_i q H1 nq sq eq
    refine r_listL (Same.seq sq hS) (fun c nc => ?_)
    walk_at "w_go"
    refine r_dispE [(.inr "cells", .ref c), (.inr "at", .int 0), (.inr "rest", .int 0), (.inr "digits", .int 0), (.inr "mix", .int t), (.inr "turn", .int 0)] (pk c 0 0 0 t 0) (by walk_at "w_hp") rfl (by simp) rfl ?_
    have ncq : c ≠ q := (ne_of_none eq nc).symm
    refine k q c _ ⟨ns, 0, 0, 0, t, 0, upd_same, by rw [upd_ne ncq]; exact upd_same, by decide, h0, by omega⟩ ?_ nq
    exact same_put (Same.trans sq (same_new nc)) nq
theorem ok_is_choice (T : Txt P K mg ad) : FnOk P w K mg base (L2.CX P w) 2 ad.is_choice ad.fd_is_choice ["thing", "choices"] (spChoice K) := by
  refine T.F_is_choice.okX sc_is_choice (fun vs H Q E h => ?_) (fun cdv A outer s H vs Q E hr h => ?_)
  · obtain ⟨v, a, ss, rfl, _⟩ := h
    rfl
  obtain ⟨v, a, ss, rfl, ha, hv, k⟩ := h
  refine ⟨_, (pss_one (ps_ret (pe_and (pe_callB call_isi (by rfl) T.n_isinstance (by decide +kernel) (pa_cons (pv 0) (pa_cons (pe_bltn (v := .ty "str") (by rfl) T.n_str (by decide +kernel) rfl) pa_nil))) (pe_one (pe_cmpR op_in_seq (pv 0) (pv 1) (by rfl)))))), ?_⟩
  rw [show L2.start ["thing", "choices"] [v, V.ref a] = [some (v), some (V.ref a)] from rfl]
  walk_at "w_go"
  obtain ⟨t, b, h1, h2, h3⟩ := hv.isStr (K := K)
  refine r_isi h1 h2 ?_
  walk_at "w_go"
  cases b with
  | true =>
    obtain ⟨x, rfl⟩ := h3.mp rfl
    walk_at "w_go"
    refine r_in (.inr ha) rfl (flat_strs ss) ?_
    rw [if_neg Bool.false_ne_true, inV_strs]
    exact k
  | false =>
    walk_at "w_go"
    have e : okv v ss = false := by
      cases v with
      | str x => exact absurd (h3.mpr ⟨x, rfl⟩) Bool.false_ne_true
      | _ => rfl
    rw [e] at k
    exact k
theorem ok_Guard_init (T : Txt P K mg ad) : FnOk P w K mg base (L2.CX P w) 3 ad.Guard_init ad.fd_Guard_init ["self", "mark", "act", "by", "keep", "keep_by"] (spInit ad) := by
  refine T.F_Guard_init.ok sc_Guard_init (fun vs H Q E h => ?_) (fun cdv A outer s H vs Q E hr h => ?_)
  · obtain ⟨a, dx, v0, v1, v2, v3, v4, rfl, _⟩ := h
    rfl
  obtain ⟨a, dx, v0, v1, v2, v3, v4, rfl, hx, ⟨a0, a1, a2, a3, a4⟩, kE, kS⟩ := h
  refine ⟨_, (pss_cons (ps_set (i := 6) sc_Guard_init.nd rfl (Or.inl rfl) (pe_lst (pa_cons (pe_tup (pa_cons pe_str (pa_cons (pv 1) (pa_cons (pe_glob (v := .ref ad.MARKS) rfl T.g_MARKS rfl) pa_nil)))) (pa_cons (pe_tup (pa_cons pe_str (pa_cons (pv 2) (pa_cons (pe_glob (v := .ref ad.ACTS) rfl T.g_ACTS rfl) pa_nil)))) (pa_cons (pe_tup (pa_cons pe_str (pa_cons (pv 3) (pa_cons (pe_glob (v := .ref ad.BY) rfl T.g_BY rfl) pa_nil)))) (pa_cons (pe_tup (pa_cons pe_str (pa_cons (pv 4) (pa_cons (pe_glob (v := .ref ad.KEEPS) rfl T.g_KEEPS rfl) pa_nil)))) pa_nil))))))
    (pss_cons (ps_expr (pe_bm PySem.F.plainAttrs_list PySem.F.slot_list_append PySem.F.type_list_append mt_append (pv 6) (pa_cons (pe_tup (pa_cons pe_str (pa_cons (pv 5) (pa_cons (pe_glob (v := .ref ad.BY) rfl T.g_BY rfl) pa_nil)))) pa_nil)))
    (pss_cons (ps_for (passes_of rfl) rfl (pi_list (pv 6)) (pg_tup rfl (pgs_cons (pg_name (i := 7) sc_Guard_init.nd rfl (Or.inl rfl)) (pgs_cons (pg_name (i := 8) sc_Guard_init.nd rfl (Or.inl rfl)) (pgs_cons (pg_name (i := 9) sc_Guard_init.nd rfl (Or.inl rfl)) pgs_nil)))) (pss_one (ps_if (pt_not (pt_val (pe_call (ok_is_choice T) hr rfl T.g_is_choice T.F_is_choice.kp T.b_is_choice .nil passL (pa_cons (pv 8) (pa_cons (pv 9) pa_nil))))) (pss_one (ps_raiseEr rfl T.er_BadGuard hr (takes_of rfl rfl rfl rfl) T.g_BadGuard (pa_cons (pv 7) pa_nil))) pss_nil)))
    (pss_cons (ps_fld (pv 0) (pv 1) rfl)
    (pss_cons (ps_fld (pv 0) (pe_ifExp (pt_cmpR op_eq (pv 1) pe_str (nomark _)) pe_str (pv 2)) rfl)
    (pss_cons (ps_fld (pv 0) (pe_ifExp (pt_cmpR op_eq (pv 1) pe_str (nomark _)) pe_str (pv 3)) rfl)
    (pss_cons (ps_fld (pv 0) (pv 4) rfl)
    (pss_one (ps_fld (pv 0) (pe_ifExp (pt_cmpR op_eq (pv 4) pe_str (nomark _)) pe_str (pv 5)) rfl))))))))), ?_⟩
  rw [show L2.start ["self", "mark", "act", "by", "keep", "keep_by", "checked", "part", "value", "choices"] [V.ref a, v0, v1, v2, v3, v4] = [some (V.ref a), some (v0), some (v1), some (v2), some (v3), some (v4), none, none, none, none] from rfl]
  walk_at "w_go"
  rename_i t0 G0 n0 s0 e0 t1 G1 n1 s1 e1 t2 G2 n2 s2 e2 t3 G3 n3 s3 e3 L G4 n4 s4 e4 t4 G5 n5 s5 e5
  have h0 : upd G5 L (.lst ([V.ref t0, .ref t1, .ref t2, .ref t3] ++ [.ref t4])) t0 = some (.tup [.str "mark", v0, .ref ad.MARKS]) := by walk_at "w_hp"
  have h1 : upd G5 L (.lst ([V.ref t0, .ref t1, .ref t2, .ref t3] ++ [.ref t4])) t1 = some (.tup [.str "act", v1, .ref ad.ACTS]) := by walk_at "w_hp"
  have h2 : upd G5 L (.lst ([V.ref t0, .ref t1, .ref t2, .ref t3] ++ [.ref t4])) t2 = some (.tup [.str "by", v2, .ref ad.BY]) := by walk_at "w_hp"
  have h3 : upd G5 L (.lst ([V.ref t0, .ref t1, .ref t2, .ref t3] ++ [.ref t4])) t3 = some (.tup [.str "keep", v3, .ref ad.KEEPS]) := by walk_at "w_hp"
  have h4 : upd G5 L (.lst ([V.ref t0, .ref t1, .ref t2, .ref t3] ++ [.ref t4])) t4 = some (.tup [.str "keep_by", v4, .ref ad.BY]) := by walk_at "w_hp"
  have hL : upd G5 L (.lst ([V.ref t0, .ref t1, .ref t2, .ref t3] ++ [.ref t4])) L = some (.lst [V.ref t0, .ref t1, .ref t2, .ref t3, .ref t4]) := upd_same
  have hS : Same H (upd G5 L (.lst ([V.ref t0, .ref t1, .ref t2, .ref t3] ++ [.ref t4]))) := by walk_at "w_same"
  clear s0 s1 s2 s3 s4 s5 e0 e1 e2 e3 e4 e5 n0 n1 n2 n3 n4 n5
  generalize upd G5 L (.lst ([V.ref t0, .ref t1, .ref t2, .ref t3] ++ [.ref t4])) = Hc at h0 h1 h2 h3 h4 hL hS ⊢
  let okN : Nat → Bool := fun j => [okv v0 MARKSl, okv v1 ACTSl, okv v2 BYl, okv v3 KEEPSl, okv v4 BYl].getD j true
  have item : ∀ (i : Nat) (x : V), [V.ref t0, .ref t1, .ref t2, .ref t3, .ref t4][i]? = some x → ∃ (t : Addr) (part : Str) (v : V) (cA : Addr) (cs : List Str), x = .ref t ∧ Hc t = some (.tup [.str part, v, .ref cA]) ∧ (∀ H, SqT K H cA (cs.map V.str)) ∧ AnyV Hc v ∧ okN i = okv v cs ∧ ((∀ j, j < i → okN j = true) → okv v cs = false → badPart v0 v1 v2 v3 v4 = some part) := by
    intro i x hi
    match i, hi with
    | 0, hi =>
      cases hi
      refine ⟨_, _, _, _, _, rfl, h0, T.c_MARKS, a0.same hS, rfl, fun _ z => ?_⟩
      unfold badPart
      rw [if_pos z]
    | 1, hi =>
      cases hi
      refine ⟨_, _, _, _, _, rfl, h1, T.c_ACTS, a1.same hS, rfl, fun hj z => ?_⟩
      have j0 : okv v0 MARKSl = true := hj 0 (by decide)
      unfold badPart
      rw [if_neg (by simp [j0]), if_pos z]
    | 2, hi =>
      cases hi
      refine ⟨_, _, _, _, _, rfl, h2, T.c_BY, a2.same hS, rfl, fun hj z => ?_⟩
      have j0 : okv v0 MARKSl = true := hj 0 (by decide)
      have j1 : okv v1 ACTSl = true := hj 1 (by decide)
      unfold badPart
      rw [if_neg (by simp [j0]), if_neg (by simp [j1]), if_pos z]
    | 3, hi =>
      cases hi
      refine ⟨_, _, _, _, _, rfl, h3, T.c_KEEPS, a3.same hS, rfl, fun hj z => ?_⟩
      have j0 : okv v0 MARKSl = true := hj 0 (by decide)
      have j1 : okv v1 ACTSl = true := hj 1 (by decide)
      have j2 : okv v2 BYl = true := hj 2 (by decide)
      unfold badPart
      rw [if_neg (by simp [j0]), if_neg (by simp [j1]), if_neg (by simp [j2]), if_pos z]
    | 4, hi =>
      cases hi
      refine ⟨_, _, _, _, _, rfl, h4, T.c_BY, a4.same hS, rfl, fun hj z => ?_⟩
      have j0 : okv v0 MARKSl = true := hj 0 (by decide)
      have j1 : okv v1 ACTSl = true := hj 1 (by decide)
      have j2 : okv v2 BYl = true := hj 2 (by decide)
      have j3 : okv v3 KEEPSl = true := hj 3 (by decide)
      unfold badPart
      rw [if_neg (by simp [j0]), if_neg (by simp [j1]), if_neg (by simp [j2]), if_neg (by simp [j3]), if_pos z]
    | n + 5, hi => cases hi
  refine r_ilK (SqL.of hL) (for_list (K := K) (a := L) (xs := [V.ref t0, .ref t1, .ref t2, .ref t3, .ref t4]) (fun i σ H' => H' = Hc ∧ (∀ j, j < i → okN j = true) ∧ ∃ (p v c : Option V), σ = [some (.ref a), some v0, some v1, some v2, some v3, some v4, some (.ref L), p, v, c]) ⟨rfl, fun j hj => absurd hj (Nat.not_lt_zero j), none, none, none, rfl⟩ ?_ ?_ ?_)
  · rintro i σ H' _ ⟨rfl, _⟩
    exact SqL.of hL
  · rintro i x σ H' hi ⟨rfl, hj, p, v, c, rfl⟩
    obtain ⟨t, part, u, cA, cs, rfl, ht, hsq, hany, hok, hbad⟩ := item i x hi
    walk_at "w_go"
    refine ⟨u, cA, cs, rfl, hsq _, hany, ?_⟩
    walk_at "w_go"
    walk_at "w_br"
    · rename_i hbr
      walk_at "w_go"
      rename_i d Hd nd sd ed
      exact kE part (hbad hj hbr) d Hd (hS.trans sd) (by walk_at "w_frs") ed
    · rename_i hbr
      walk_at "w_go"
      refine ⟨rfl, fun j hj' => ?_, _, _, _, rfl⟩
      by_cases e : j = i
      · rw [e, hok, hbr]
      · exact hj j (by omega)
  · rintro σ H' ⟨rfl, hj, p, v, c, rfl⟩
    obtain ⟨m, rfl, m1⟩ := okv_str (show okv v0 MARKSl = true from hj 0 (by simp))
    obtain ⟨t, rfl, m2⟩ := okv_str (show okv v1 ACTSl = true from hj 1 (by simp))
    obtain ⟨b, rfl, m3⟩ := okv_str (show okv v2 BYl = true from hj 2 (by simp))
    obtain ⟨k, rfl, m4⟩ := okv_str (show okv v3 KEEPSl = true from hj 3 (by simp))
    obtain ⟨e, rfl, m5⟩ := okv_str (show okv v4 BYl = true from hj 4 (by simp))
    have kk := kS m t b k e rfl rfl rfl rfl rfl m1 m2 m3 m4 m5
    have hxa := hS _ _ hx
    have cl := T.ow_Guard.cl
    have f1 := T.no_Guard_mark
    have f2 := T.no_Guard_act
    have f3 := T.no_Guard_by
    have f4 := T.no_Guard_keep
    have f5 := T.no_Guard_keep_by
    walk_at "w_go"
    have fin : ∀ {H2 : Hp} {l : List (Str × V)}, (∀ (b : Addr) (o : HO), b ≠ a → H b = some o → H2 b = some o) → H2 a = some (.ins ad.Guard dx l) → l = gfs (plain5 m t b k e) → Q V.non H2 := fun g h z => kk _ g (z ▸ h)
    clear kk kE kS item
    walk_at "w_br"
    · rename_i hm
      walk_at "w_go"
      walk_at "w_br"
      · walk_at "w_go"
        walk_at "w_br"
        · rename_i hk
          walk_at "w_go"
          exact fin (fun b o nb hb => by walk_at "w_hp") upd_same (by simp only [gfs, plain5, hm, hk, if_true, if_false, reduceIte]; rfl)
        · rename_i hk
          walk_at "w_go"
          exact fin (fun b o nb hb => by walk_at "w_hp") upd_same (by simp only [gfs, plain5, hm, hk, if_true, if_false, reduceIte]; rfl)
      · rename_i hm'
        exact absurd hm hm'
    · rename_i hm
      walk_at "w_go"
      walk_at "w_br"
      · rename_i hm'
        exact absurd hm' hm
      · walk_at "w_go"
        walk_at "w_br"
        · rename_i hk
          walk_at "w_go"
          exact fin (fun b o nb hb => by walk_at "w_hp") upd_same (by simp only [gfs, plain5, hm, hk, if_true, if_false, reduceIte]; rfl)
        · rename_i hk
          walk_at "w_go"
          exact fin (fun b o nb hb => by walk_at "w_hp") upd_same (by simp only [gfs, plain5, hm, hk, if_true, if_false, reduceIte]; rfl)

end
end Wm
namespace Wm
open PySem L2

section
variable {P : Program} {w : World} {K : PySem.W.Frag} {mg : Str → Option Value} {base : Heap} {ad : Ad}
theorem sum_leN {L : Nat} : ∀ {ss : List Str}, (∀ s, s ∈ ss → s.length ≤ L) → (ss.map (·.length)).sum ≤ ss.length * L
  | [], _ => by simp
  | s :: ss, h => by
    have ih := sum_leN (ss := ss) (fun x hx => h x (by simp [hx]))
    have h1 := h s (by simp)
    simp only [List.map_cons, List.sum_cons, List.length_cons, Nat.succ_mul]
    omega
theorem ok_l_letters (T : Txt P K mg ad) : FnOk P w K mg base (L2.CX P w) 3 ad.l_letters ad.fd_l_letters ["_law_pen_here", "_law_place", "_law_index", "_law_offset", "_law_plain"] spLetters := by
  refine T.F_l_letters.okX sc_l_letters (fun vs H Q E h => ?_) (fun cdv A outer s H vs Q E hr h => ?_)
  · obtain ⟨p, c, pl, k, o, plain, rfl, _⟩ := h
    rfl
  obtain ⟨p, c, pl, k, o, plain, rfl, hp, h1, h2, h3, kQ⟩ := h
  refine ⟨_, (pss_cons (ps_set (i := 5) sc_l_letters.nd rfl (Or.inl rfl) pe_str)
    (pss_cons (ps_set (i := 6) sc_l_letters.nd rfl (Or.inl rfl) (pe_op op_add (pv 1) pe_int))
    (pss_cons (ps_if (pt_not (pt_val (pv 4))) (pss_one (ps_set (i := 6) sc_l_letters.nd rfl (Or.inl rfl) (pe_op op_add (pv 6) (pe_call (ok_l_take T) hr rfl T.g_l_take T.F_l_take.kp T.b_l_take .nil passL (pa_cons (pv 0) (pa_cons (pe_op op_sub pe_int (pv 1)) pa_nil)))))) pss_nil)
    (pss_cons (ps_set (i := 7) sc_l_letters.nd rfl (Or.inl rfl) (pe_lst pa_nil))
    (pss_cons (ps_for (passes_of rfl) rfl (pi_range1 rfl T.n_range (pa_cons (pv 6) pa_nil)) (pg_name (i := 8) sc_l_letters.nd rfl (Or.inl rfl)) (pss_one (ps_if (pt_cmpR op_eq (pv 8) (pv 1) (nomark _)) (pss_one (ps_expr (pe_bm PySem.F.plainAttrs_list PySem.F.slot_list_append PySem.F.type_list_append mt_append (pv 7) (pa_cons (pe_ix ix_str (pv 5) (pe_op op_mod (pe_op op_add (pv 3) (pv 2)) pe_int) (fun _ _ => rfl)) pa_nil)))) (pss_one (ps_if (pt_val (pv 4)) (pss_one (ps_expr (pe_bm PySem.F.plainAttrs_list PySem.F.slot_list_append PySem.F.type_list_append mt_append (pv 7) (pa_cons pe_str pa_nil)))) (pss_one (ps_expr (pe_bm PySem.F.plainAttrs_list PySem.F.slot_list_append PySem.F.type_list_append mt_append (pv 7) (pa_cons (pe_ix ix_str (pv 5) (pe_call (ok_l_take T) hr rfl T.g_l_take T.F_l_take.kp T.b_l_take .nil passL (pa_cons (pv 0) (pa_cons pe_int pa_nil))) (fun _ _ => rfl)) pa_nil)))))))))
    (pss_one (ps_ret (pe_bm PySem.F.plainAttrs_str PySem.F.slot_str_join PySem.F.type_str_join mtJoin pe_str (pa_cons (pv 7) pa_nil))))))))), ?_⟩
  rw [show L2.start ["_law_pen_here", "_law_place", "_law_index", "_law_offset", "_law_plain", "_law_letters_here", "_law_size", "_law_chosen", "_law_k"] [V.ref p, V.int pl, V.int k, V.int o, V.bl plain] = [some (V.ref p), some (V.int pl), some (V.int k), some (V.int o), some (V.bl plain), none, none, none, none] from rfl]
  walk_at "w_go"
  refine r_ifJ (fun σ H' => ∃ sz : Nat, σ = [some (.ref p), some (.int pl), some (.int k), some (.int o), some (.bl plain), some (.str LOWS), some (.int sz), none, none] ∧ PenStep p c H H' ∧ pl < sz ∧ sz ≤ 8) ?_ ?_
  · rintro σ H' ⟨sz, rfl, hs, l1, l2⟩
    walk_at "w_go"
    rename_i q H1 n1 s1 e1
    have nHq : H q = none := hs.free n1
    refine r_rngK (by omega) (by omega) ?_
    rw [Int.toNat_natCast]
    refine for_range (lo := 0) (n := sz) (fun j σ H2 => ∃ (cs : List Nat) (v : Option V), σ = [some (.ref p), some (.int pl), some (.int k), some (.int o), some (.bl plain), some (.str LOWS), some (.int sz), some (.ref q), v] ∧ PenStep p c H H2 ∧ H2 q = some (.lst ((cs.map one).map V.str)) ∧ cs.length = j ∧ cs.all isLow = true ∧ (pl < j → cs[pl]? = some (97 + (o + k) % 26))) ⟨[], none, rfl, hs.same s1, e1, rfl, rfl, fun z => by omega⟩ ?_ ?_
    · rintro j σ H2 hj ⟨cs, v, rfl, hs2, e2, hl, ha, ht⟩
      clear e1 s1 n1 hs
      have hp2 := hs2.pen
      have fin : ∀ (d : Nat) (H3 : Hp), PenStep p c H H3 → H3 q = some (.lst ((cs.map one).map V.str)) → isLow d = true → (j = pl → d = 97 + (o + k) % 26) → ∃ (cs' : List Nat) (v : Option V), [some (.ref p), some (.int pl), some (.int k), some (.int o), some (.bl plain), some (.str LOWS), some (.int sz), some (.ref q), some (V.int (0 + (j : Int)))] = [some (.ref p), some (.int pl), some (.int k), some (.int o), some (.bl plain), some (.str LOWS), some (.int sz), some (.ref q), v] ∧ PenStep p c H (upd H3 q (.lst (((cs.map one).map V.str) ++ [V.str (one d)]))) ∧ upd H3 q (.lst (((cs.map one).map V.str) ++ [V.str (one d)])) q = some (.lst ((cs'.map one).map V.str)) ∧ cs'.length = j + 1 ∧ cs'.all isLow = true ∧ (pl < j + 1 → cs'[pl]? = some (97 + (o + k) % 26)) := fun d H3 t3 e3 hd hdj => by
        refine ⟨cs ++ [d], _, rfl, t3.put hp nHq, ?_, ?_, ?_, ?_⟩
        · rw [upd_same, List.map_append, List.map_append]
          rfl
        · simp [hl]
        · rw [List.all_append, ha]
          simp [hd]
        · intro hpl
          by_cases hlt : pl < j
          · rw [List.getElem?_append_left (by omega)]
            exact ht hlt
          · have e : pl = cs.length := by omega
            rw [e, List.getElem?_append_right (Nat.le_refl _), Nat.sub_self, ← hdj (by omega)]
            rfl
      walk_at "w_go"
      walk_at "w_br"
      · rename_i hjp
        walk_at "w_go"
        refine r_ixS (c := 97 + (o + k) % 26) (by rw [PySem.sizeLine_eq]; decide) (by rw [show ((o : Int) + (k : Int)) % 26 = (((o + k) % 26 : Nat) : Int) from by omega]; exact atI_nat (low_at (Nat.mod_lt _ (by decide)))) ?_
        walk_at "w_go"
        exact fin _ _ hs2 e2 (by unfold isLow; simp; omega) (fun _ => rfl)
      · rename_i hjp
        walk_at "w_go"
        cases plain with
        | true =>
          walk_at "w_go"
          exact fin 97 _ hs2 e2 rfl (fun z => absurd (show (0 : Int) + (j : Int) = (pl : Int) from by omega) hjp)
        | false =>
          walk_at "w_go"
          refine r_take hp2 (by decide) (by decide) (fun r H3 h0 h1 s3 => ?_)
          walk_at "w_go"
          have hq3 : H3 q = some (.lst ((cs.map one).map V.str)) := by walk_at "w_hp"
          obtain ⟨n, rfl⟩ := Int.eq_ofNat_of_zero_le h0
          refine r_ixS (c := 97 + n) (by rw [PySem.sizeLine_eq]; decide) (atI_nat (low_at (by omega))) ?_
          walk_at "w_go"
          exact fin _ _ (hs2.trans s3) hq3 (by unfold isLow; simp; omega) (fun z => absurd (show (0 : Int) + (j : Int) = (pl : Int) from by omega) hjp)
    · rintro σ H2 ⟨cs, v, rfl, hs2, e2, hl, ha, ht⟩
      walk_at "w_go"
      refine r_join _ e2 rfl ?_ ?_
      · have hsum : ((cs.map one).map (·.length)).sum ≤ (cs.map one).length * 1 := sum_leN fun x hx => by
          obtain ⟨d, _, rfl⟩ := List.mem_map.mp hx
          exact Nat.le_refl 1
        rw [show (Str.ofString "").length = 0 from rfl]
        rw [List.length_map] at hsum ⊢
        omega
      · refine kQ _ _ hs2 ⟨?_, ?_, ?_⟩
        · rw [join_ones]
          exact ha
        · have e := congrArg List.length (join_ones cs)
          rw [Array.length_toList] at e
          show (Txt.join "" (cs.map one)).cps.size ≤ 8
          omega
        · rw [join_ones]
          exact ht l1
  · intro N hN
    cases plain with
    | true =>
      walk_at "w_go"
      exact hN _ _ ⟨pl + 1, rfl, PenStep.refl hp, by omega, by omega⟩
    | false =>
      walk_at "w_go"
      refine r_take hp (by omega) (by omega) (fun r H1 g0 g1 s1 => ?_)
      walk_at "w_go"
      obtain ⟨n, rfl⟩ := Int.eq_ofNat_of_zero_le g0
      exact hN _ _ ⟨pl + 1 + n, rfl, s1, by omega, by omega⟩
end
end Wm
namespace Wm
open PySem L2

section
variable {P : Program} {w : World} {K : PySem.W.Frag} {mg : Str → Option Value} {base : Heap} {ad : Ad}
theorem ok_l_names (T : Txt P K mg ad) : FnOk P w K mg base (L2.CX P w) 4 ad.l_names ad.fd_l_names ["_law_pen_here", "_law_count"] spNames := by
  refine T.F_l_names.okX sc_l_names (fun vs H Q E h => ?_) (fun cdv A outer s H vs Q E hr h => ?_)
  · obtain ⟨p, c, n, rfl, _⟩ := h
    rfl
  obtain ⟨p, c, n, rfl, hp, hn, kQ⟩ := h
  refine ⟨_, (pss_cons (ps_set (i := 2) sc_l_names.nd rfl (Or.inr rfl) (pe_call (ok_l_bit T) hr rfl T.g_l_bit T.F_l_bit.kp T.b_l_bit .nil passL (pa_cons (pv 0) (pa_cons pe_int pa_nil))))
    (pss_cons (ps_set (i := 3) sc_l_names.nd rfl (Or.inr rfl) (pe_call (ok_l_take T) (hr.mono (by decide)) rfl T.g_l_take T.F_l_take.kp T.b_l_take .nil passL (pa_cons (pv 0) (pa_cons pe_int pa_nil))))
    (pss_cons (ps_if (pt_val (pe_call (ok_l_bit T) hr rfl T.g_l_bit T.F_l_bit.kp T.b_l_bit .nil passL (pa_cons (pv 0) (pa_cons pe_int pa_nil)))) (pss_one (ps_set (i := 3) sc_l_names.nd rfl (Or.inr rfl) pe_int)) pss_nil)
    (pss_cons (ps_set (i := 4) sc_l_names.nd rfl (Or.inr rfl) (pe_call (ok_l_take T) (hr.mono (by decide)) rfl T.g_l_take T.F_l_take.kp T.b_l_take .nil passL (pa_cons (pv 0) (pa_cons pe_int pa_nil))))
    (pss_one (ps_ret (pe_lc (own := [("_law_k", 5)]) (g := gName 5) (tt := tYes) rfl sc_l_names.nd (pi_range1 rfl T.n_range (pa_cons (pv 1) pa_nil)) (blkOk_by (own := [("_law_k", 5)]) (N := ["_law_pen_here", "_law_count", "_law_plain", "_law_place", "_law_offset", "_law_k"]) (sc := defScope s_l_names) (by decide +kernel)) (fun _ _ _ _ _ => pg_name (i := 5) sc_l_names.nd rfl (Or.inl rfl)) (fun _ _ _ _ _ => pts_nil) (fun _ _ _ _ _ => (pe_call (ok_l_letters T) hr rfl T.g_l_letters T.F_l_letters.kp T.b_l_letters .nil passL (pa_cons (pv 0) (pa_cons (pv 3) (pa_cons (pv 5) (pa_cons (pv 4) (pa_cons (pv 2) pa_nil)))))))))))))), ?_⟩
  rw [show L2.start ["_law_pen_here", "_law_count", "_law_plain", "_law_place", "_law_offset", "_law_k"] [V.ref p, V.int n] = [some (V.ref p), some (V.int n), none, none, none, none] from rfl]
  walk_at "w_go"
  refine r_bit hp (by decide) (by decide) (fun plain H1 s1 => ?_)
  walk_at "w_go"
  refine r_take s1.pen (by decide) (by decide) (fun r H2 a0 a1 s2 => ?_)
  obtain ⟨pl0, rfl⟩ := Int.eq_ofNat_of_zero_le a0
  walk_at "w_go"
  refine r_bit s2.pen (by decide) (by decide) (fun z H3 s3 => ?_)
  have hs3 : PenStep p c H H3 := (s1.trans s2).trans s3
  clear s1 s2 s3
  walk_at "w_go"
  refine r_ifJ (fun σ H' => ∃ pl : Nat, σ = [some (.ref p), some (.int n), some (.bl plain), some (.int pl), none, none] ∧ PenStep p c H H' ∧ pl < 8) ?_ ?_
  · rintro σ H' ⟨pl, rfl, hs, hl⟩
    clear hs3
    walk_at "w_go"
    refine r_take hs.pen (by decide) (by decide) (fun o H4 b0 b1 s4 => ?_)
    obtain ⟨o, rfl⟩ := Int.eq_ofNat_of_zero_le b0
    have hs4 := hs.trans s4
    clear hs s4
    walk_at "w_go"
    refine r_rngK (by omega) (by omega) ?_
    rw [Int.toNat_natCast]
    intro D hD
    have nD : H D = none := hs4.free hD
    refine lc_range (lo := 0) (n := n) (fun j H' => PenStep p c H H' ∧ ∃ l : List Str, H' D = some (.lst (l.map V.str)) ∧ l.length = j ∧ NamesAt pl o l) ⟨hs4.put hp nD, [], upd_same, rfl, fun k x z => by simp at z⟩ ?_ ?_
    · rintro j H5 hj ⟨hs5, l, e5, hlj, hn5⟩
      clear hs4
      refine ⟨wipe_set1, ?_⟩
      walk_at "w_go"
      refine ⟨p, c, pl, j, o, plain, by simp, hs5.pen, hl, by omega, by omega, fun x H6 s6 nm => ?_⟩
      have e6 : H6 D = some (.lst (l.map V.str)) := by walk_at "w_hp"
      refine ⟨_, e6, by rw [PySem.sizeLine_eq, List.length_map]; omega, (hs5.trans s6).put hp nD, l ++ [x], ?_, by simp [hlj], fun k y hk => ?_⟩
      · rw [upd_same, List.map_append]
        rfl
      · by_cases hlt : k < l.length
        · rw [List.getElem?_append_left hlt] at hk
          exact hn5 k y hk
        · rw [List.getElem?_append_right (by omega)] at hk
          have hk2 : k - l.length < 1 := (List.getElem?_eq_some_iff.mp hk).1
          have e : k = j := by omega
          subst e
          rw [hlj, Nat.sub_self] at hk
          cases hk
          exact nm
    · rintro H5 ⟨hs5, l, e5, hlj, hn5⟩
      exact kQ pl o l D H5 hl (by omega) hs5 nD e5 hlj hn5
  · intro N hN
    cases z with
    | true =>
      refine iteT ?_
      walk_at "w_go"
      exact hN _ _ ⟨0, rfl, hs3, by decide⟩
    | false =>
      refine iteF ?_
      walk_at "w_go"
      exact hN _ _ ⟨pl0, rfl, hs3, by omega⟩
theorem ok_l_kind_names (T : Txt P K mg ad) : FnOk P w K mg base (L2.CX P w) 5 ad.l_kind_names ad.fd_l_kind_names ["_law_pen_here", "_law_count"] spKinds := by
  refine T.F_l_kind_names.okX sc_l_kind_names (fun vs H Q E h => ?_) (fun cdv A outer s H vs Q E hr h => ?_)
  · obtain ⟨p, c, n, rfl, _⟩ := h
    rfl
  obtain ⟨p, c, n, rfl, hp, hn, kQ⟩ := h
  refine ⟨_, (pss_one (ps_ret (pe_lc (own := [("_law_name", 2)]) (g := gName 2) (tt := tYes) rfl sc_l_kind_names.nd (pi_list (pe_call (ok_l_names T) hr rfl T.g_l_names T.F_l_names.kp T.b_l_names .nil passL (pa_cons (pv 0) (pa_cons (pv 1) pa_nil)))) (blkOk_by (own := [("_law_name", 2)]) (N := ["_law_pen_here", "_law_count", "_law_name"]) (sc := defScope s_l_kind_names) (by decide +kernel)) (fun _ _ _ _ _ => pg_name (i := 2) sc_l_kind_names.nd rfl (Or.inl rfl)) (fun _ _ _ _ _ => pts_nil) (fun _ _ _ _ _ => (pe_op op_addS (pe_bm0 PySem.F.plainAttrs_str PySem.F.slot_str_upper PySem.F.type_str_upper mtUpper (pe_ix ix_str (pv 2) pe_int (fun _ _ => rfl)) : PE _ _ (tBM0 K _ _ _)) (pe_slice sl_str (pv 2) (po_some pe_int) po_none)))))), ?_⟩
  rw [show L2.start ["_law_pen_here", "_law_count", "_law_name"] [V.ref p, V.int n] = [some (V.ref p), some (V.int n), none] from rfl]
  walk_at "w_go"
  refine ⟨p, c, n, rfl, hp, hn, fun pl o l q H1 hpl ho s1 n1 e1 hl hna => ?_⟩
  refine r_ilK (.of e1) (r_lcL (xs := l.map V.str) (fun _ => true) (liftS capF) (.of e1) (by rw [PySem.sizeLine_eq, List.length_map]; omega) (fun j x hj => ?_) (fun q2 H2 n2 s2 e2 => ?_))
  · obtain ⟨x, rfl, hx⟩ := str_ix hj
    have nm := hna j x hx
    obtain ⟨d, t, e, hd, ht⟩ := name_cons nm
    have h8 := nm.2.1
    refine ⟨fun H' R _ q => q, fun H' R _ s q => ?_⟩
    walk_at "w_go"
    refine r_ixS (c := d) (by rw [PySem.sizeLine_eq]; omega) (by rw [e]; exact atI_nat (j := 0) rfl) ?_
    have hd2 : x.cps.toList.headD 0 = d := by rw [e]; rfl
    have q2 : R (V.str (Txt.upper (one d) ++ cutS x (some 1) none)) H' := by
      have q3 : R (V.str (capF x)) H' := q
      unfold capF at q3
      rwa [hd2] at q3
    clear q
    refine r_tyS (r_upper (a := one d) (show (1 : Nat) ≤ 5592405 from by decide) ?_)
    walk_at "w_go"
    refine r_addS ?_ q2
    rw [upper_one hd, PySem.sizeLine_eq, show (one (d - 32)).length = 1 from rfl]
    have := cutS_length x (some 1) none
    omega
  · rw [lift_map] at e2
    refine kQ (l.map capF) q2 H2 (s1.same s2) (s1.free n2) e2 (by rw [List.length_map, hl]) (caps_nodup hna (by omega)) fun y hy => ?_
    obtain ⟨x, hx, rfl⟩ := List.mem_map.mp hy
    obtain ⟨k, hk⟩ := List.mem_iff_getElem?.mp hx
    exact cap_kind (hna k x hk)
theorem ok_l_field_names (T : Txt P K mg ad) : FnOk P w K mg base (L2.CX P w) 5 ad.l_field_names ad.fd_l_field_names ["_law_pen_here", "_law_count"] spPool := by
  refine T.F_l_field_names.okX sc_l_field_names (fun vs H Q E h => ?_) (fun cdv A outer s H vs Q E hr h => ?_)
  · obtain ⟨p, c, n, rfl, _⟩ := h
    rfl
  obtain ⟨p, c, n, rfl, hp, hn, kQ⟩ := h
  refine ⟨_, (pss_cons (ps_set (i := 2) sc_l_field_names.nd rfl (Or.inl rfl) (pe_lst pa_nil))
    (pss_cons (ps_for (passes_of rfl) rfl (pi_list (pe_call (ok_l_names T) hr rfl T.g_l_names T.F_l_names.kp T.b_l_names .nil passL (pa_cons (pv 0) (pa_cons (pv 1) pa_nil)))) (pg_name (i := 3) sc_l_field_names.nd rfl (Or.inl rfl)) (pss_cons (ps_if (pt_cmpR op_in_seq (pv 3) (pe_lst (pa_cons pe_str (pa_cons pe_str (pa_cons pe_str pa_nil)))) (by rfl)) (pss_one (ps_set (i := 3) sc_l_field_names.nd rfl (Or.inl rfl) (pe_op op_addS (pv 3) pe_str))) pss_nil)
    (pss_one (ps_expr (pe_bm PySem.F.plainAttrs_list PySem.F.slot_list_append PySem.F.type_list_append mt_append (pv 2) (pa_cons (pv 3) pa_nil))))))
    (pss_one (ps_ret (pv 2))))), ?_⟩
  rw [show L2.start ["_law_pen_here", "_law_count", "_law_found", "_law_name"] [V.ref p, V.int n] = [some (V.ref p), some (V.int n), none, none] from rfl]
  walk_at "w_go"
  rename_i F H0 n0 s0 e0
  refine ⟨p, c, n, rfl, hp.same s0, hn, fun pl o l q H1 hpl ho s1 n1 e1 hl hna => ?_⟩
  have npF : F ≠ p := (hp.ne_new n0).1.symm
  have eF : H1 F = some (.lst []) := s1.keep _ _ npF e0
  have hs1 : PenStep p c H H1 := PenStep.trans ((PenStep.refl hp).same s0) s1
  have hqF : q ≠ F := (ne_of_none e0 n1).symm
  clear s0 s1 e0 n1
  refine r_ilK (.of e1) (for_list (K := K) (a := q) (xs := l.map V.str) (fun i σ H' => ∃ v, σ = [some (.ref p), some (.int n), some (.ref F), v] ∧ PenStep p c H H' ∧ H' q = some (.lst (l.map V.str)) ∧ H' F = some (.lst (((l.take i).map poolF).map V.str))) ⟨none, rfl, hs1, e1, eF⟩ ?_ ?_ ?_)
  · rintro i σ H' _ ⟨v, rfl, hs, hq, hF⟩
    exact .of hq
  · rintro i x σ H' hi ⟨v, rfl, hs, hq, hF⟩
    obtain ⟨x, rfl, hx⟩ := str_ix hi
    have nm := hna i x hx
    have h8 := nm.2.1
    have hil : i < l.length := (List.getElem?_eq_some_iff.mp hx).1
    clear hs1 e1 eF
    walk_at "w_go"
    rename_i q2 H2 n2 s2 e2
    have hF2 := s2 _ _ hF
    have hq2 := s2 _ _ hq
    have hs2 := hs.same s2
    replace e2 : H2 q2 = some (.lst (RESl.map V.str)) := e2
    clear s2 hF hq hs n2
    refine r_inSP (.inl (.of e2)) ?_
    have fin : ∀ y, y = poolF x → ∃ v, [some (.ref p), some (.int n), some (.ref F), some (V.str y)] = [some (.ref p), some (.int n), some (.ref F), v] ∧ PenStep p c H (upd H2 F (.lst (((l.take i).map poolF).map V.str ++ [V.str y]))) ∧ upd H2 F (.lst (((l.take i).map poolF).map V.str ++ [V.str y])) q = some (.lst (l.map V.str)) ∧ upd H2 F (.lst (((l.take i).map poolF).map V.str ++ [V.str y])) F = some (.lst (((l.take (i + 1)).map poolF).map V.str)) := fun y hy => by
      subst hy
      refine ⟨_, rfl, hs2.put hp n0, by rw [upd_ne hqF]; exact hq2, ?_⟩
      rw [upd_same, take_more hx, List.map_append, List.map_append]
      rfl
    walk_at "w_go"
    by_cases hm : x ∈ RESl
    · refine iteT' (decide_eq_true hm) ?_
      walk_at "w_go"
      refine r_addS (by rw [PySem.sizeLine_eq, show (Str.ofString "x").length = 1 from rfl]; omega) ?_
      walk_at "w_go"
      refine r_append hF2 (by rw [PySem.sizeLine_eq, List.length_map, List.length_map, List.length_take]; omega) ?_
      exact fin _ (by unfold poolF; rw [if_pos hm])
    · refine iteF' (decide_eq_false hm) ?_
      walk_at "w_go"
      refine r_append hF2 (by rw [PySem.sizeLine_eq, List.length_map, List.length_map, List.length_take]; omega) ?_
      exact fin _ (by unfold poolF; rw [if_neg hm])
  · rintro σ H' ⟨v, rfl, hs, hq, hF⟩
    rw [List.length_map, List.take_length] at hF
    walk_at "w_go"
    refine kQ (l.map poolF) F H' hs n0 hF (by rw [List.length_map, hl]) (pools_nodup hna (by omega)) fun y hy => ?_
    obtain ⟨x, hx, rfl⟩ := List.mem_map.mp hy
    obtain ⟨k, hk⟩ := List.mem_iff_getElem?.mp hx
    exact pool_field (hna k x hk)
end
end Wm
namespace Wm
open PySem L2

section
variable {P : Program} {w : World} {K : PySem.W.Frag} {mg : Str → Option Value} {base : Heap} {ad : Ad}
theorem ok_l_line (T : Txt P K mg ad) : FnOk P w K mg base (L2.CX P w) 2 ad.l_line ad.fd_l_line ["_law_rows_here", "_law_name"] spLine := by
  refine T.F_l_line.okX sc_l_line (fun vs H Q E h => ?_) (fun cdv A outer s H vs Q E hr h => ?_)
  · obtain ⟨L, rows, all, n, rfl, _⟩ := h
    rfl
  obtain ⟨L, rows, all, n, rfl, ⟨vs, eL, hrows⟩, ok, hz, hn, kQ⟩ := h
  refine ⟨_, (pss_cons (ps_set (i := 2) sc_l_line.nd rfl (Or.inl rfl) pe_dnewK)
    (pss_cons (ps_for (passes_of rfl) rfl (pi_list (pv 0)) (pg_name (i := 3) sc_l_line.nd rfl (Or.inl rfl)) (pss_cons (ps_set (i := 4) sc_l_line.nd rfl (Or.inr rfl) (pe_lst (pa_cons (pe_ix ix_tup (pv 3) pe_int (fun _ _ => rfl)) pa_nil)))
    (pss_cons (ps_for (passes_of rfl) rfl (pi_tup (pe_ix ix_tup (pv 3) pe_int (fun _ _ => rfl))) (pg_name (i := 5) sc_l_line.nd rfl (Or.inl rfl)) (pss_one (ps_set (i := 4) sc_l_line.nd rfl (Or.inr rfl) (pe_op op_cat (pv 4) (pe_dget (hu_of hr) (pv 2) (pv 5) (fun _ _ => rfl))))))
    (pss_one (ps_dput (hu_of hr) (pv 2) (pe_ix ix_tup (pv 3) pe_int (fun _ _ => rfl)) (pe_lc (own := [("_law_k", 6)]) (g := gName 6) rfl sc_l_line.nd (pi_range1 rfl T.n_range (pa_cons (pe_callB c_len (by rfl) T.n_len PySem.boot_len (pa_cons (pv 4) pa_nil)) pa_nil)) (blkOk_by (own := [("_law_k", 6)]) (N := ["_law_rows_here", "_law_name", "_law_lines", "_law_row", "_law_line_here", "_law_base", "_law_k"]) (sc := defScope s_l_line) (by decide +kernel)) (fun _ _ _ _ _ => pg_name (i := 6) sc_l_line.nd rfl (Or.inl rfl)) (fun _ _ _ _ _ => (pts_one (pt_cmpR (op_notIn_seq : OpR _ _ (rIn K true)) (pe_ix (ix_list : IxR _ (rIxL K)) (pv 4) (pv 6) (fun _ _ => rfl)) (pe_slice (sl_list : SlR _ (rSlL K)) (pv 4) (po_some (pe_op op_add (pv 6) pe_int)) po_none) (by rfl)))) (fun _ _ _ _ _ => (pe_ix (ix_list : IxR _ (rIxL K)) (pv 4) (pv 6) (fun _ _ => rfl)))) rfl)))))
    (pss_one (ps_ret (pe_dget (hu_of hr) (pv 2) (pv 1) (fun _ _ => rfl)))))), ?_⟩
  rw [show L2.start ["_law_rows_here", "_law_name", "_law_lines", "_law_row", "_law_line_here", "_law_base", "_law_k"] [V.ref L, V.str n] = [some (V.ref L), some (V.str n), none, none, none, none, none] from rfl]
  have hb := ok.bs
  walk_at "w_go"
  rename_i D H1 n1 s1 e1
  have hlen := hrows.len
  refine r_ilK (.of (s1 _ _ eL)) (for_list (K := K) (a := L) (xs := vs) (fun i σ H' => ∃ (v3 v4 v5 : Option V) (kvs : List (Key × V)), σ = [some (.ref L), some (.str n), some (.ref D), v3, v4, v5, none] ∧ Same H H' ∧ H' D = some (.dK kvs) ∧ kvs.length ≤ i ∧ ∀ m, m ∈ names (rows.take i) → ∃ a, valV kvs (.inr m) = some (.ref a) ∧ H a = none ∧ H' a = some (.lst ((lineF (rows.take i) m).map V.str))) ⟨none, none, none, [], rfl, s1, e1, Nat.le_refl _, fun m hm => by simp [names] at hm⟩ ?_ ?_ ?_)
  · rintro i σ H' _ ⟨v3, v4, v5, kvs, rfl, hs, _⟩
    exact .of (hs _ _ eL)
  · rintro i x σ H' hi ⟨v3, v4, v5, kvs, rfl, hs, hD, hk, hv⟩
    obtain ⟨r, hri, hra⟩ := hrows.right hi
    obtain ⟨ra, bv, ov, rfl, hra, ⟨ba, rfl, hba⟩, _⟩ := hra.tx (tx_same hs)
    have okr := ok i r hri
    have hil : i < rows.length := (List.getElem?_eq_some_iff.mp hri).1
    have hbt := ok.take i |>.bs
    clear s1 e1
    walk_at "w_go"
    rename_i La H2 n2 s2 e2
    refine r_itK (.of (s2 _ _ hba)) (for_tup (K := K) (a := ba) (xs := r.bases.map V.str) (fun j σ H'' => ∃ (La : Addr) (v5 : Option V), σ = [some (.ref L), some (.str n), some (.ref D), some (.ref ra), some (.ref La), v5, none] ∧ Same H' H'' ∧ H'' La = some (.lst ((r.name :: (r.bases.take j).flatMap (lineF (rows.take i))).map V.str))) ⟨La, _, rfl, s2, e2⟩ ?_ ?_ ?_)
    · rintro j σ H'' _ ⟨La, v5, rfl, hs3, _⟩
      exact .of (hs3 _ _ hba)
    · rintro j x σ H'' hj ⟨La, v5, rfl, hs3, e3⟩
      obtain ⟨b, rfl, hbj⟩ := str_ix hj
      have hbn := okr.bsub b (List.mem_of_getElem? hbj)
      obtain ⟨a, va, _, ea⟩ := hv b hbn
      have hl1 : ((r.bases.take j).flatMap (lineF (rows.take i))).length ≤ 3 * 6 := Nat.le_trans (flat_le (k := 6) fun x _ => Nat.le_trans (line_len hbt x) (by rw [List.length_take]; omega)) (Nat.mul_le_mul (Nat.le_trans (by rw [List.length_take]; exact Nat.min_le_right _ _) okr.blen) (Nat.le_refl _))
      have hl2 := line_len hbt b
      rw [List.length_take] at hl2
      clear s2 e2 n2
      walk_at "w_go"
      refine r_dgetK (hs3 _ _ hD) va ?_
      refine r_cat e3 (hs3 _ _ ea) (by rw [PySem.sizeLine_eq]; simp only [List.length_map, List.length_cons]; omega) (fun q H3 n3 s3 e4 => ?_)
      walk_at "w_go"
      refine ⟨q, _, rfl, hs3.trans s3, ?_⟩
      rw [e4, ← List.map_append, take_flat hbj]
      rfl
    · rintro σ H'' ⟨La, v5, rfl, hs3, e3⟩
      rw [List.length_map, List.take_length] at e3
      have hl1 : (r.bases.flatMap (lineF (rows.take i))).length ≤ 3 * 6 := Nat.le_trans (flat_le (k := 6) fun x _ => Nat.le_trans (line_len hbt x) (by rw [List.length_take]; omega)) (Nat.mul_le_mul okr.blen (Nat.le_refl _))
      have hlz : (r.name :: r.bases.flatMap (lineF (rows.take i))).length ≤ 19 := by
        rw [List.length_cons]
        omega
      have eline := line_new (rows := rows.take i) (r := r) okr.fresh
      generalize hline : (r.name :: r.bases.flatMap (lineF (rows.take i))) = line at e3 hlz eline
      clear s2 e2 n2 hl1
      walk_at "w_go"
      refine r_rngK (by rw [List.length_map]; omega) (by rw [List.length_map]; omega) ?_
      rw [Int.toNat_natCast, List.length_map]
      refine r_lcW walk_range (sufs line) (sufs_len line) (fun a => !decide (a.1 ∈ a.2)) (fun a y _ => y = V.str a.1) (fun _ _ _ _ h _ => h) (fun _ _ => trivial) (by rw [PySem.sizeLine_eq]; omega) (fun D2 j a x Hi Hj acc Kt Kf hD2 ha sI eD2 y kt kf => ?_) (fun q ys H3 n3 s3 e4 hr4 => ?_)
      · obtain ⟨rfl, rfl⟩ := y
        obtain ⟨a1, a2⟩ := sufs_at ha
        have e3' := sI _ _ e3
        have hx : (line.map V.str)[j]? = some (V.str a.1) := by
          rw [List.getElem?_map, a1]
          rfl
        refine ⟨wipe_set1, ?_⟩
        walk_at "w_go"
        refine r_ixLK e3' (at_n hx) ?_
        walk_at "w_go"
        rename_i q5 H5 n5 s5 e5
        rw [show (0 : Int) + (j : Int) + 1 = ((j + 1 : Nat) : Int) from by omega, cut_from, ← List.map_drop, a2] at e5
        refine r_inSN (.inl (.of e5)) ?_
        walk_at "w_go"
        by_cases hm : a.1 ∈ a.2
        · refine iteF' (by simp [hm]) ?_
          exact kf (by simp [hm]) H5 s5
        · refine iteT' (by simp [hm]) ?_
          walk_at "w_go"
          refine r_ixLK (s5 _ _ e3') (at_n hx) ?_
          exact kt (by simp [hm]) _ _ s5 rfl
      · have hys := all2_map hr4
        rw [sufs_last] at hys
        subst hys
        have hD3 := s3 _ _ (hs3 _ _ hD)
        walk_at "w_go"
        refine r_dputK hD3 rfl (by rw [PySem.sizeLine_eq]; omega) ?_
        have nD : D ≠ q := (ne_of_none (hs3 _ _ hD) n3)
        have hsq : Same H H3 := (hs.trans hs3).trans s3
        refine ⟨_, _, _, _, rfl, same_put hsq n1, upd_same, Nat.le_trans (length_putK _ _ _) (by omega), fun m hm => ?_⟩
        rw [take_names hri] at hm
        rw [take_more hri]
        by_cases hmr : m = r.name
        · subst hmr
          refine ⟨q, by rw [valV_put, if_pos rfl], (hs.trans hs3).free n3, ?_⟩
          rw [upd_ne nD.symm, e4, eline]
        · have hm2 : m ∈ names (rows.take i) := by
            rcases List.mem_append.mp hm with z | z
            · exact z
            · simp only [List.mem_cons, List.not_mem_nil, or_false] at z
              exact absurd z hmr
          obtain ⟨a, va, na, ea⟩ := hv m hm2
          refine ⟨a, by rw [valV_put, if_neg (fun z => hmr (Sum.inr.inj z)), va], na, ?_⟩
          have naD : a ≠ D := fun z => by
            rw [z, hD] at ea
            cases ea
          rw [upd_ne naD, s3 _ _ (hs3 _ _ ea), line_keep hm2]
  · rintro σ H' ⟨v3, v4, v5, kvs, rfl, hs, hD, hk, hv⟩
    rw [← hlen, List.take_length] at hv
    obtain ⟨a, va, na, ea⟩ := hv n hn
    walk_at "w_go"
    refine r_dgetK hD va ?_
    exact kQ a H' hs na ea
end
end Wm
namespace Wm
open PySem L2

section
variable {P : Program} {w : World} {K : PySem.W.Frag} {mg : Str → Option Value} {base : Heap} {ad : Ad}
theorem ok_l_fields (T : Txt P K mg ad) : FnOk P w K mg base (L2.CX P w) 3 ad.l_fields ad.fd_l_fields ["_law_rows_here", "_law_name"] spFields := by
  refine T.F_l_fields.okX sc_l_fields (fun vs H Q E h => ?_) (fun cdv A outer s H vs Q E hr h => ?_)
  · obtain ⟨L, rows, all, n, rfl, _⟩ := h
    rfl
  obtain ⟨L, rows, all, n, rfl, ⟨vs, eL, hrows⟩, ok, hz, hn, kQ⟩ := h
  refine ⟨_, (pss_cons (ps_set (i := 2) sc_l_fields.nd rfl (Or.inl rfl) pe_dnewK)
    (pss_cons (ps_for (passes_of rfl) rfl (pi_list (pv 0)) (pg_name (i := 3) sc_l_fields.nd rfl (Or.inl rfl)) (pss_one (ps_dput (hu_of hr) (pv 2) (pe_ix ix_tup (pv 3) pe_int (fun _ _ => rfl)) (pe_ix ix_tup (pv 3) pe_int (fun _ _ => rfl)) rfl)))
    (pss_cons (ps_set (i := 4) sc_l_fields.nd rfl (Or.inl rfl) (pe_call (ok_l_line T) hr rfl T.g_l_line T.F_l_line.kp T.b_l_line .nil passL (pa_cons (pv 0) (pa_cons (pv 1) pa_nil))))
    (pss_cons (ps_set (i := 5) sc_l_fields.nd rfl (Or.inl rfl) (pe_lst pa_nil))
    (pss_cons (ps_for (passes_of rfl) rfl (pi_range1 rfl T.n_range (pa_cons (pe_callB c_len (by rfl) T.n_len PySem.boot_len (pa_cons (pv 4) pa_nil)) pa_nil)) (pg_name (i := 6) sc_l_fields.nd rfl (Or.inl rfl)) (pss_cons (ps_set (i := 7) sc_l_fields.nd rfl (Or.inl rfl) (pe_ix ix_list (pv 4) (pe_op op_sub (pe_op op_sub (pe_callB c_len (by rfl) T.n_len PySem.boot_len (pa_cons (pv 4) pa_nil)) pe_int) (pv 6)) (fun _ _ => rfl)))
    (pss_one (ps_for (passes_of rfl) rfl (pi_tup (pe_dget (hu_of hr) (pv 2) (pv 7) (fun _ _ => rfl))) (pg_name (i := 8) sc_l_fields.nd rfl (Or.inl rfl)) (pss_one (ps_expr (pe_bm PySem.F.plainAttrs_list PySem.F.slot_list_append PySem.F.type_list_append mt_append (pv 5) (pa_cons (pe_tup (pa_cons (pe_ix ix_tup (pv 8) pe_int (fun _ _ => rfl)) (pa_cons (pe_ix ix_tup (pv 8) pe_int (fun _ _ => rfl)) (pa_cons (pe_ix ix_tup (pv 8) pe_int (fun _ _ => rfl)) (pa_cons (pv 7) pa_nil))))) pa_nil))))))))
    (pss_one (ps_ret (pv 5)))))))), ?_⟩
  rw [show L2.start ["_law_rows_here", "_law_name", "_law_owned", "_law_row", "_law_line_here", "_law_found", "_law_k", "_law_owner", "_law_field"] [V.ref L, V.str n] = [some (V.ref L), some (V.str n), none, none, none, none, none, none, none] from rfl]
  have hb := ok.bs
  walk_at "w_go"
  rename_i D H1 n1 s1 e1
  have hlen := hrows.len
  refine r_ilK (.of (s1 _ _ eL)) (for_list (K := K) (a := L) (xs := vs) (fun i σ H' => ∃ (v3 : Option V) (kvs : List (Key × V)), σ = [some (.ref L), some (.str n), some (.ref D), v3, none, none, none, none, none] ∧ Same H H' ∧ H' D = some (.dK kvs) ∧ kvs.length ≤ i ∧ ∀ m, m ∈ names (rows.take i) → ∃ v, valV kvs (.inr m) = some v ∧ FldsAt H (ownOf (rows.take i) m) v) ⟨none, [], rfl, s1, e1, Nat.le_refl _, fun m hm => by simp [names] at hm⟩ ?_ ?_ ?_)
  · rintro i σ H' _ ⟨v3, kvs, rfl, hs, _⟩
    exact .of (hs _ _ eL)
  · rintro i x σ H' hi ⟨v3, kvs, rfl, hs, hD, hk, hv⟩
    obtain ⟨r, hri, hra⟩ := hrows.right hi
    obtain ⟨ra, bv, ov, rfl, hra, _, ho⟩ := hra
    have okr := ok i r hri
    have hil : i < rows.length := (List.getElem?_eq_some_iff.mp hri).1
    have hra' := hs _ _ hra
    clear s1 e1
    walk_at "w_go"
    refine r_dputK hD rfl (by rw [PySem.sizeLine_eq]; omega) ?_
    refine ⟨_, _, rfl, same_put hs n1, upd_same, Nat.le_trans (length_putK _ _ _) (by omega), fun m hm => ?_⟩
    rw [take_names hri] at hm
    rw [take_more hri]
    by_cases hmr : m = r.name
    · subst hmr
      refine ⟨ov, by rw [valV_put, if_pos rfl], ?_⟩
      rw [own_new okr.fresh]
      exact ho
    · have hm2 : m ∈ names (rows.take i) := by
        rcases List.mem_append.mp hm with z | z
        · exact z
        · simp only [List.mem_cons, List.not_mem_nil, or_false] at z
          exact absurd z hmr
      obtain ⟨v, va, hf⟩ := hv m hm2
      refine ⟨v, by rw [valV_put, if_neg (fun z => hmr (Sum.inr.inj z)), va], ?_⟩
      rw [own_keeps hm2]
      exact hf
  · rintro σ H' ⟨v3, kvs, rfl, hs, hD, hk, hv⟩
    rw [← hlen, List.take_length] at hv
    clear s1 e1
    walk_at "w_go"
    refine ⟨L, rows, all, n, rfl, ⟨vs, hs _ _ eL, all2_rows hrows (tx_same hs)⟩, ok, hz, hn, fun La H2 s2 n2 e2 => ?_⟩
    have hll := line_len hb n
    have hsub : ∀ o, o ∈ lineF rows n → o ∈ names rows := fun o ho => line_sub hb ho
    generalize hline : lineF rows n = line at e2 hll hsub
    have hs2 := hs.trans s2
    have hD2 := s2 _ _ hD
    have na : H La = none := hs.free n2
    clear hs hD s2
    walk_at "w_go"
    rename_i F H3 n3 s3 e3
    have hLa := s3 _ _ e2
    have hD3 := s3 _ _ hD2
    have nF : H F = none := hs2.free n3
    have hs3 := hs2.trans s3
    have hLF : La ≠ F := ne_of_none e2 n3
    clear e2 hD2 hs2 s3 n3 n2
    refine r_rngK (by rw [List.length_map]; omega) (by rw [List.length_map]; omega) ?_
    rw [Int.toNat_natCast, List.length_map]
    let f4 : Str → List Fld4 := fun o => (ownOf rows o).map fun f => (f.1, f.2.1, f.2.2, o)
    have own4 : ∀ o, o ∈ line → (ownOf rows o).length ≤ 4 := fun o ho => own_len ok o
    refine for_range (lo := 0) (n := line.length) (fun j σ H' => ∃ (v6 v7 v8 : Option V) (ys : List V), σ = [some (.ref L), some (.str n), some (.ref D), v3, some (.ref La), some (.ref F), v6, v7, v8] ∧ Same H H' ∧ H' D = some (.dK kvs) ∧ H' La = some (.lst (line.map V.str)) ∧ H' F = some (.lst ys) ∧ All2 (F4At H') ((line.reverse.take j).flatMap f4) ys) ⟨_, _, _, _, rfl, hs3, hD3, hLa, e3, .nil⟩ ?_ ?_
    · rintro j σ H4 hj ⟨v6, v7, v8, ys, rfl, hs4, hD4, hLa4, hF4, hr4⟩
      clear hs3 hD3 hLa e3
      have hrj : line.reverse[j]? = some (line[line.length - 1 - j]'(by omega)) := by
        rw [List.getElem?_reverse hj]
        exact List.getElem?_eq_getElem _
      have hoj : (line.map V.str)[line.length - 1 - j]? = some (V.str (line[line.length - 1 - j]'(by omega))) := by
        rw [List.getElem?_map, List.getElem?_eq_getElem (by omega)]
        rfl
      have hom : line[line.length - 1 - j]'(by omega) ∈ line := List.getElem_mem _
      generalize line[line.length - 1 - j]'(by omega) = o at hrj hoj hom
      obtain ⟨v, va, hf⟩ := hv o (hsub o hom)
      obtain ⟨oa, fvs, rfl, hoa, hfv⟩ := hf.tx (tx_same hs4)
      have hol := own4 o hom
      have hacc : ((line.reverse.take j).flatMap f4).length ≤ 6 * 4 := Nat.le_trans (flat_le (k := 4) fun x hx => by
        have := own4 x (List.mem_reverse.mp (List.mem_of_mem_take hx))
        show ((ownOf rows x).map _).length ≤ 4
        rw [List.length_map]
        exact this) (Nat.mul_le_mul (by rw [List.length_take, List.length_reverse]; omega) (Nat.le_refl _))
      walk_at "w_go"
      refine r_ixLK hLa4 (by rw [show ((line.map V.str).length : Int) - 1 - (0 + (j : Int)) = ((line.length - 1 - j : Nat) : Int) from by rw [List.length_map]; omega]; exact atI_nat hoj) ?_
      walk_at "w_go"
      refine r_dgetK hD4 va ?_
      rw [take_flat hrj]
      generalize ((line.reverse.take j).flatMap f4) = acc at hr4 hacc
      refine r_itK (.of hoa) (for_tup (K := K) (a := oa) (xs := fvs) (fun t σ H5 => ∃ (v8 : Option V) (ys : List V), σ = [some (.ref L), some (.str n), some (.ref D), v3, some (.ref La), some (.ref F), some (.int (0 + (j : Int))), some (.str o), v8] ∧ Same H H5 ∧ Tx H4 H5 ∧ H5 D = some (.dK kvs) ∧ H5 La = some (.lst (line.map V.str)) ∧ H5 F = some (.lst ys) ∧ All2 (F4At H5) (acc ++ ((ownOf rows o).take t).map fun f => (f.1, f.2.1, f.2.2, o)) ys) ⟨_, _, rfl, hs4, Tx.refl _, hD4, hLa4, hF4, by simpa using hr4⟩ ?_ ?_ ?_)
      · rintro t σ H5 _ ⟨v8, ys, rfl, hs5, ht5, _⟩
        exact .of (ht5 _ _ hoa)
      · rintro t x σ H5 ht ⟨v8, ys, rfl, hs5, ht5, hD5, hLa5, hF5, hr5⟩
        obtain ⟨f, hft, hfx⟩ := hfv.right ht
        obtain ⟨fa, rfl, hfa⟩ := hfx.tx ht5
        have hyl := hr5.len
        have htl := (List.getElem?_eq_some_iff.mp hft).1
        rw [List.length_append, List.length_map, List.length_take] at hyl
        walk_at "w_go"
        rename_i q6 H6 n6 s6 e6
        refine r_append (s6 _ _ hF5) (by rw [PySem.sizeLine_eq]; omega) ?_
        have hF6 := s6 _ _ hF5
        have nFD : D ≠ F := ne_of hD5 hF5 (by intro z; cases z)
        have tx7 : Tx H5 (upd H6 F (.lst (ys ++ [V.ref q6]))) := (tx_same s6).trans (tx_lst hF6)
        refine ⟨_, ys ++ [V.ref q6], rfl, same_put (hs5.trans s6) nF, ht5.trans tx7, by rw [upd_ne nFD]; exact s6 _ _ hD5, by rw [upd_ne hLF]; exact s6 _ _ hLa5, upd_same, ?_⟩
        rw [take_more hft, List.map_append, ← List.append_assoc]
        refine All2.snoc (R := F4At (upd H6 F (.lst (ys ++ [V.ref q6])))) ⟨q6, rfl, ?_⟩ (all2_f4 hr5 tx7)
        exact tx_lst hF6 _ _ e6
      · rintro σ H5 ⟨v8, ys, rfl, hs5, ht5, hD5, hLa5, hF5, hr5⟩
        rw [← hfv.len, List.take_length] at hr5
        exact ⟨_, _, _, ys, rfl, hs5, hD5, hLa5, hF5, hr5⟩
    · rintro σ H4 ⟨v6, v7, v8, ys, rfl, hs4, hD4, hLa4, hF4, hr4⟩
      rw [show line.length = line.reverse.length from (List.length_reverse).symm, List.take_length] at hr4
      walk_at "w_go"
      refine kQ F H4 hs4 nF ⟨ys, hF4, ?_⟩
      unfold fieldsF
      rw [hline]
      exact hr4
end
end Wm
namespace Wm
open PySem L2

section
variable {P : Program} {w : World} {K : PySem.W.Frag} {mg : Str → Option Value} {base : Heap} {ad : Ad}
theorem ok_l_concrete (T : Txt P K mg ad) : FnOk P w K mg base (L2.CX P w) 2 ad.l_concrete ad.fd_l_concrete ["_law_rows_here"] spConc := by
  refine T.F_l_concrete.okX sc_l_concrete (fun vs H Q E h => ?_) (fun cdv A outer s H vs Q E hr h => ?_)
  · obtain ⟨L, rows, rfl, _⟩ := h
    rfl
  obtain ⟨L, rows, rfl, ⟨vs, eL, hrows⟩, hz, kQ⟩ := h
  refine ⟨_, (pss_one (ps_ret (pe_lc (own := [("_law_row", 1)]) (g := gName 1) rfl sc_l_concrete.nd (pi_list (pv 0)) (blkOk_by (own := [("_law_row", 1)]) (N := ["_law_rows_here", "_law_row"]) (sc := defScope s_l_concrete) (by decide +kernel)) (fun _ _ _ _ _ => pg_name (i := 1) sc_l_concrete.nd rfl (Or.inl rfl)) (fun _ _ _ _ _ => (pts_one (pt_not (pt_val (pe_ix (ix_tup : IxR _ (rIxT K)) (pv 1) pe_int (fun _ _ => rfl)))))) (fun _ _ _ _ _ => (pe_ix (ix_tup : IxR _ (rIxT K)) (pv 1) pe_int (fun _ _ => rfl)))))), ?_⟩
  rw [show L2.start ["_law_rows_here", "_law_row"] [V.ref L] = [some (V.ref L), none] from rfl]
  walk_at "w_go"
  refine r_ilK (.of eL) (r_lcW walk_list rows hrows.len (fun r => !r.abs) (fun r y _ => y = V.str r.name) (fun _ _ _ _ h _ => h) (fun _ s => .of (s _ _ eL)) (by rw [← hrows.len, PySem.sizeLine_eq]; omega) (fun D j r x Hi Hj acc Kt Kf hD hr sI eD y kt kf => ?_) (fun q ys H2 n2 s2 e2 hr2 => ?_))
  · obtain ⟨rfl, hx⟩ := y
    obtain ⟨x', hx', hra⟩ := hrows.left hr
    rw [hx] at hx'
    cases hx'
    obtain ⟨ra, bv, ov, rfl, hra, _, _⟩ := hra.tx (tx_same sI)
    refine ⟨wipe_set1, ?_⟩
    walk_at "w_go"
    cases hab : r.abs with
    | true =>
      refine iteF' rfl ?_
      exact kf (by simp [hab]) _ (Same.refl _)
    | false =>
      refine iteT' rfl ?_
      walk_at "w_go"
      exact kt (by simp [hab]) _ _ (Same.refl _) rfl
  · have hys := all2_map hr2
    refine kQ q H2 s2 n2 ?_
    rw [e2, hys]
    unfold concF
    rw [List.map_map]
    rfl
theorem ok_l_under (T : Txt P K mg ad) : FnOk P w K mg base (L2.CX P w) 3 ad.l_under ad.fd_l_under ["_law_rows_here", "_law_name"] spUnder := by
  refine T.F_l_under.okX sc_l_under (fun vs H Q E h => ?_) (fun cdv A outer s H vs Q E hr h => ?_)
  · obtain ⟨L, rows, all, n, rfl, _⟩ := h
    rfl
  obtain ⟨L, rows, all, n, rfl, hrows, ok, hz, kQ⟩ := h
  refine ⟨_, (pss_one (ps_ret (pe_lc (own := [("_law_one", 2)]) (g := gName 2) rfl sc_l_under.nd (pi_list (pe_call (ok_l_concrete T) hr rfl T.g_l_concrete T.F_l_concrete.kp T.b_l_concrete .nil passL (pa_cons (pv 0) pa_nil))) (blkOk_by (own := [("_law_one", 2)]) (N := ["_law_rows_here", "_law_name", "_law_one"]) (sc := defScope s_l_under) (by decide +kernel)) (fun _ _ _ _ _ => pg_name (i := 2) sc_l_under.nd rfl (Or.inl rfl)) (fun _ _ _ _ _ => (pts_one (pt_cmpR (op_in_seq : OpR _ _ (rIn K false)) (pv 1) (pe_call (ok_l_line T) hr rfl T.g_l_line T.F_l_line.kp T.b_l_line .nil passL (pa_cons (pv 0) (pa_cons (pv 2) pa_nil))) (by rfl)))) (fun _ _ _ _ _ => (pv 2))))), ?_⟩
  rw [show L2.start ["_law_rows_here", "_law_name", "_law_one"] [V.ref L, V.str n] = [some (V.ref L), some (V.str n), none] from rfl]
  walk_at "w_go"
  refine ⟨L, rows, rfl, hrows, hz, fun q1 H1 s1 n1 e1 => ?_⟩
  have hrows1 := hrows.same s1
  have hcl : (concF rows).length ≤ 6 := by
    unfold concF
    rw [List.length_map]
    exact Nat.le_trans (List.length_filter_le _ _) hz
  refine r_ilK (.of e1) (r_lcW walk_list (concF rows) (by rw [List.length_map]) (fun o => decide (n ∈ lineF rows o)) (fun o y _ => y = V.str o) (fun _ _ _ _ h _ => h) (fun _ s => .of (s _ _ e1)) (by rw [PySem.sizeLine_eq, List.length_map]; omega) (fun D j o x Hi Hj acc Kt Kf hD ho sI eD y kt kf => ?_) (fun q ys H2 n2 s2 e2 hr2 => ?_))
  · obtain ⟨rfl, hx⟩ := y
    rw [List.getElem?_map, ho] at hx
    cases hx
    have hmem := List.mem_of_getElem? ho
    refine ⟨wipe_set1, ?_⟩
    walk_at "w_go"
    refine ⟨L, rows, all, o, rfl, hrows1.same sI, ok, hz, conc_sub hmem, fun La H3 s3 n3 e3 => ?_⟩
    refine r_inSP (.inl (.of e3)) ?_
    walk_at "w_go"
    by_cases hm : n ∈ lineF rows o
    · refine iteT' (decide_eq_true hm) ?_
      walk_at "w_go"
      exact kt (decide_eq_true hm) _ _ s3 rfl
    · refine iteF' (decide_eq_false hm) ?_
      exact kf (decide_eq_false hm) _ s3
  · have hys := all2_map hr2
    refine kQ q H2 (s1.trans s2) (s1.free n2) ?_
    rw [e2, hys]
    rfl
end
end Wm
namespace Wm
open PySem L2

section
variable {P : Program} {w : World} {K : PySem.W.Frag} {mg : Str → Option Value} {base : Heap} {ad : Ad}
theorem ok_l_merged (T : Txt P K mg ad) : FnOk P w K mg base (L2.CX P w) 4 ad.l_merged ad.fd_l_merged ["_law_rows_here", "_law_held", "_law_base"] spMerged := by
  refine T.F_l_merged.okX sc_l_merged (fun vs H Q E h => ?_) (fun cdv A outer s H vs Q E hr h => ?_)
  · obtain ⟨L, hL, rows, all, hd, b, rfl, _⟩ := h
    rfl
  obtain ⟨L, hL, rows, all, hd, b, rfl, hrows, ok, hz, ⟨hvs, ehL, hpairs⟩, hdl, hb, kN, kQ⟩ := h
  refine ⟨_, (pss_cons (ps_set (i := 3) sc_l_merged.nd rfl (Or.inl rfl) (pe_callTy c_list (by rfl) T.n_list (by decide +kernel) (pa_cons (pv 1) pa_nil)))
    (pss_cons (ps_for (passes_of rfl) rfl (pi_list (pe_call (ok_l_fields T) hr rfl T.g_l_fields T.F_l_fields.kp T.b_l_fields .nil passL (pa_cons (pv 0) (pa_cons (pv 2) pa_nil)))) (pg_name (i := 4) sc_l_merged.nd rfl (Or.inl rfl)) (pss_one (ps_if (pt_cmpR (op_notInP hr.units) (pe_tup (pa_cons (pe_ix ix_tup (pv 4) pe_int (fun _ _ => rfl)) (pa_cons (pe_ix ix_tup (pv 4) pe_int (fun _ _ => rfl)) pa_nil))) (pv 3) (by rfl)) (pss_one (ps_expr (pe_bm PySem.F.plainAttrs_list PySem.F.slot_list_append PySem.F.type_list_append mt_append (pv 3) (pa_cons (pe_tup (pa_cons (pe_ix ix_tup (pv 4) pe_int (fun _ _ => rfl)) (pa_cons (pe_ix ix_tup (pv 4) pe_int (fun _ _ => rfl)) pa_nil))) pa_nil)))) pss_nil)))
    (pss_cons (ps_set (i := 5) sc_l_merged.nd rfl (Or.inr rfl) (pe_lc (own := [("_law_pair", 6)]) (g := gName 6) (tt := tYes) rfl sc_l_merged.nd (pi_list (pv 3)) (blkOk_by (own := [("_law_pair", 6)]) (N := ["_law_rows_here", "_law_held", "_law_base", "_law_merged_here", "_law_field", "_law_names_here", "_law_pair", "_law_name"]) (sc := defScope s_l_merged) (by decide +kernel)) (fun _ _ _ _ _ => pg_name (i := 6) sc_l_merged.nd rfl (Or.inl rfl)) (fun _ _ _ _ _ => pts_nil) (fun _ _ _ _ _ => (pe_ix (ix_tup : IxR _ (rIxT K)) (pv 6) pe_int (fun _ _ => rfl)))))
    (pss_cons (ps_if (PW.pt (pw_or (pt_cmpR op_gt (pe_callB c_len (by rfl) T.n_len PySem.boot_len (pa_cons (pv 5) pa_nil)) pe_int (nomark _)) (pw_or1 (pt_cmpR op_gt (pe_callB c_len (by rfl) T.n_len PySem.boot_len (pa_cons (pe_lc (own := [("_law_name", 7)]) (g := gName 7) rfl sc_l_merged.nd (pi_list (pv 5)) (blkOk_by (own := [("_law_name", 7)]) (N := ["_law_rows_here", "_law_held", "_law_base", "_law_merged_here", "_law_field", "_law_names_here", "_law_pair", "_law_name"]) (sc := defScope s_l_merged) (by decide +kernel)) (fun _ _ _ _ _ => pg_name (i := 7) sc_l_merged.nd rfl (Or.inl rfl)) (fun _ _ _ _ _ => (pts_one (pt_cmpR op_gt (pe_bm PySem.F.plainAttrs_list PySem.F.slot_list_count PySem.F.type_list_count (mt_lcountS : MtR _ "list.count" (rCntS K)) (pv 5) (pa_cons (pv 7) pa_nil) : PE _ _ (tBM K _ _ _ _)) pe_int (nomark _)))) (fun _ _ _ _ _ => (pv 7))) pa_nil)) pe_int (nomark _))))) (pss_one (ps_ret pe_non)) pss_nil)
    (pss_one (ps_ret (pv 3))))))), ?_⟩
  rw [show L2.start ["_law_rows_here", "_law_held", "_law_base", "_law_merged_here", "_law_field", "_law_names_here", "_law_pair", "_law_name"] [V.ref L, V.ref hL, V.str b] = [some (V.ref L), some (V.ref hL), some (V.str b), none, none, none, none, none] from rfl]
  walk_at "w_go"
  rename_i M H1 n1 s1 e1
  refine ⟨L, rows, all, b, rfl, hrows.same s1, ok, hz, hb, fun q2 H2 s2 n2 hF => ?_⟩
  obtain ⟨fvs, e2, hfs⟩ := hF
  have hfl := fields_len ok hb
  have hs2 := s1.trans s2
  have eM2 : H2 M = some (.lst hvs) := s2 _ _ e1
  have hp2 := all2_pairs hpairs (tx_same hs2)
  have nM2 : q2 ≠ M := (ne_of_none e1 n2).symm
  clear s1 s2 e1 n2
  have epl : pairsF (fieldsF rows b) = (fieldsF rows b).map fun f => (f.2.2.2, f.1) := rfl
  have hpl : (pairsF (fieldsF rows b)).length ≤ 4 := by
    unfold pairsF
    rw [List.length_map]
    exact hfl
  have hfvl : fvs.length = (pairsF (fieldsF rows b)).length := by
    unfold pairsF
    rw [List.length_map, hfs.len]
  refine r_ilK (.of e2) (for_list (K := K) (a := q2) (xs := fvs) (fun i σ H' => ∃ (v4 : Option V) (ys : List V), σ = [some (.ref L), some (.ref hL), some (.str b), some (.ref M), v4, none, none, none] ∧ Same H H' ∧ Tx H2 H' ∧ H' q2 = some (.lst fvs) ∧ H' M = some (.lst ys) ∧ All2 (PairAt H') (((pairsF (fieldsF rows b)).take i).foldl addNew hd) ys) ⟨none, hvs, rfl, hs2, Tx.refl _, e2, eM2, hp2⟩ ?_ ?_ ?_)
  · rintro i σ H' _ ⟨v4, ys, rfl, hs, ht, hq, _⟩
    exact .of hq
  · rintro i x σ H' hi ⟨v4, ys, rfl, hs, ht, hq, hM, hr⟩
    obtain ⟨f, hfi, hfx⟩ := hfs.right hi
    obtain ⟨fa, rfl, hfa⟩ := hfx.tx ht
    have hpi : (pairsF (fieldsF rows b))[i]? = some (f.2.2.2, f.1) := by
      rw [epl, List.getElem?_map, hfi]
      rfl
    rw [take_fold hpi]
    have hal := merge_len ((pairsF (fieldsF rows b)).take i) hd
    rw [List.length_take] at hal
    have hyl := hr.len
    generalize (((pairsF (fieldsF rows b)).take i).foldl addNew hd) = acc at hr hal hyl ⊢
    clear hs2 eM2 hp2 e2
    walk_at "w_go"
    rename_i q3 H3 n3 s3 e3
    have hr3 := all2_pairs hr (tx_same s3)
    have hM3 := s3 _ _ hM
    have hq3 := s3 _ _ hq
    have hs3 := hs.trans s3
    have ht3 := ht.trans (tx_same s3)
    have hfa3 := s3 _ _ hfa
    clear hs ht hM hq hfa s3 hr n3
    refine ⟨M, ys, PySem.W.Datum.toD (f.2.2.2, f.1), acc.map PySem.W.Datum.toD, rfl, .inl (.of hM3), .tup (.of e3) (.cons (.str _) (.cons (.str _) .nil)), dps_pairs hr3, rfl, plainAll_typed acc, Nat.le_trans (PySem.W.Datum.depth_le (f.2.2.2, f.1)) (by decide), ?_⟩
    rw [if_pos rfl, dataIn_typed]
    walk_at "w_go"
    by_cases hm : (f.2.2.2, f.1) ∈ acc
    · refine iteF' (by simp [hm]) ?_
      walk_at "w_go"
      refine ⟨_, ys, rfl, hs3, ht3, hq3, hM3, ?_⟩
      unfold addNew
      rw [if_pos hm]
      exact hr3
    · refine iteT' (by simp [hm]) ?_
      walk_at "w_go"
      rename_i q4 H4 n4 s4 e4
      have hM4 := s4 _ _ hM3
      refine r_append hM4 (by rw [PySem.sizeLine_eq]; omega) ?_
      have tx5 : Tx H3 (upd H4 M (.lst (ys ++ [V.ref q4]))) := (tx_same s4).trans (tx_lst hM4)
      refine ⟨_, ys ++ [V.ref q4], rfl, same_put (hs3.trans s4) n1, ht3.trans tx5, by rw [upd_ne nM2]; exact s4 _ _ hq3, upd_same, ?_⟩
      unfold addNew
      rw [if_neg hm]
      exact All2.snoc (R := PairAt (upd H4 M (.lst (ys ++ [V.ref q4])))) ⟨q4, rfl, tx_lst hM4 _ _ e4⟩ (all2_pairs hr3 tx5)
  · rintro σ H' ⟨v4, ys, rfl, hs, ht, hq, hM, hr⟩
    rw [hfvl, List.take_length] at hr
    replace hr : All2 (PairAt H') (mergeF hd (fieldsF rows b)) ys := hr
    have hml := merge_len (pairsF (fieldsF rows b)) hd
    replace hml : (mergeF hd (fieldsF rows b)).length ≤ hd.length + (pairsF (fieldsF rows b)).length := hml
    generalize mergeF hd (fieldsF rows b) = mg2 at hr hml kQ
    clear hs2 eM2 hp2 e2 hq
    walk_at "w_go"
    refine r_ilK (.of hM) (r_lcW walk_list mg2 hr.len (fun _ => true) (fun a y _ => y = V.str a.2) (fun _ _ _ _ h _ => h) (fun _ s => .of (s _ _ hM)) (by rw [← hr.len, PySem.sizeLine_eq]; omega) (fun D j a x Hi Hj acc Kt Kf hD ha sI eD y kt kf => ?_) (fun q ns H5 n5 s5 e5 hr5 => ?_))
    · obtain ⟨rfl, hx⟩ := y
      obtain ⟨x', hx', hpa⟩ := hr.left ha
      rw [hx] at hx'
      cases hx'
      obtain ⟨pa, rfl, hpa⟩ := hpa.tx (tx_same sI)
      refine ⟨wipe_set1, ?_⟩
      walk_at "w_go"
      exact kt rfl _ _ (Same.refl _) rfl
    · have hns := all2_map hr5
      rw [List.filter_eq_self.mpr (fun _ _ => rfl)] at hns
      have hns2 : ns = (mg2.map (·.2)).map V.str := by rw [hns, List.map_map]; rfl
      rw [hns2] at e5
      have hs5 := hs.trans s5
      have hM5 := s5 _ _ hM
      have hr5' := all2_pairs hr (tx_same s5)
      clear hs hM hr s5 hr5 hns n5
      walk_at "w_go"
      by_cases h4 : 4 < (mg2.map (·.2)).length
      · refine iteT' (decide_eq_true (by rw [List.length_map]; omega)) ?_
        walk_at "w_go"
        exact kN _ hs5
      · refine iteF' (decide_eq_false (by rw [List.length_map]; omega)) ?_
        have hnl : (mg2.map (·.2)).length ≤ 4 := by omega
        have h4' := h4
        clear hns2
        generalize hnm : mg2.map (·.2) = nm at e5 hnl h4
        walk_at "w_go"
        refine r_ilK (.of e5) (r_lcW walk_list nm (by rw [List.length_map]) (fun a => decide (1 < nm.count a)) (fun a y _ => y = V.str a) (fun _ _ _ _ h _ => h) (fun _ s => .of (s _ _ e5)) (by rw [PySem.sizeLine_eq, List.length_map]; omega) (fun D j a x Hi Hj acc Kt Kf hD ha sI eD y kt kf => ?_) (fun q ds H6 n6 s6 e6 hr6 => ?_))
        · obtain ⟨rfl, hx⟩ := y
          rw [List.getElem?_map, ha] at hx
          cases hx
          have e5' := sI _ _ e5
          refine ⟨wipe_set1, ?_⟩
          walk_at "w_go"
          refine r_cntS nm e5' rfl ?_
          walk_at "w_go"
          by_cases hc : 1 < nm.count a
          · refine iteT' (decide_eq_true (by omega)) ?_
            walk_at "w_go"
            exact kt (decide_eq_true hc) _ _ (Same.refl _) rfl
          · refine iteF' (decide_eq_false (by omega)) ?_
            exact kf (decide_eq_false hc) _ (Same.refl _)
        · have hdl2 := hr6.len
          walk_at "w_go"
          by_cases hz2 : ds.length = 0
          · refine iteF' (decide_eq_false (by omega)) ?_
            walk_at "w_go"
            have hnd : nm.Nodup := List.nodup_iff_count.mpr fun a => by
              by_cases hc : 1 < nm.count a
              · have hin : a ∈ nm.filter fun a => decide (1 < nm.count a) := List.mem_filter.mpr ⟨List.count_pos_iff.mp (by omega), decide_eq_true hc⟩
                have : 0 < (nm.filter fun a => decide (1 < nm.count a)).length := List.length_pos_of_mem hin
                omega
              · omega
            refine kQ (by rw [← hnm, List.length_map] at hnl; exact hnl) (by rw [hnm]; exact hnd) M H6 (hs5.trans s6) n1 ⟨ys, s6 _ _ hM5, all2_pairs hr5' (tx_same s6)⟩
          · refine iteT' (decide_eq_true (by omega)) ?_
            walk_at "w_go"
            exact kN _ (hs5.trans s6)
end
end Wm
namespace Wm
open PySem L2

section
variable {P : Program} {w : World} {K : PySem.W.Frag} {mg : Str → Option Value} {base : Heap} {ad : Ad}
theorem ok_l_own_fields (T : Txt P K mg ad) : FnOk P w K mg base (L2.CX P w) 3 ad.l_own_fields ad.fd_l_own_fields ["_law_pen_here", "_law_names_here", "_law_pool", "_law_held"] spOwn := by
  refine T.F_l_own_fields.okX sc_l_own_fields (fun vs H Q E h => ?_) (fun cdv A outer s H vs Q E hr h => ?_)
  · obtain ⟨p, c, nL, pL, hL, all, pool, hd, rfl, _⟩ := h
    rfl
  obtain ⟨p, c, nL, pL, hL, all, pool, hd, rfl, hp, eN, eP, ⟨hvs, eH, hpairs⟩, hpl, hpn, hpf, ha1, ha6, hdl, kQ⟩ := h
  refine ⟨_, (pss_cons (ps_set (i := 4) sc_l_own_fields.nd rfl (Or.inr rfl) (pe_lc (own := [("_law_pair", 5)]) (g := gName 5) (tt := tYes) rfl sc_l_own_fields.nd (pi_list (pv 3)) (blkOk_by (own := [("_law_pair", 5)]) (N := ["_law_pen_here", "_law_names_here", "_law_pool", "_law_held", "_law_inherited", "_law_pair", "_law_shift", "_law_free", "_law_name", "_law_own", "_law_k", "_law_mode"]) (sc := defScope s_l_own_fields) (by decide +kernel)) (fun _ _ _ _ _ => pg_name (i := 5) sc_l_own_fields.nd rfl (Or.inl rfl)) (fun _ _ _ _ _ => pts_nil) (fun _ _ _ _ _ => (pe_ix (ix_tup : IxR _ (rIxT K)) (pv 5) pe_int (fun _ _ => rfl)))))
    (pss_cons (ps_set (i := 6) sc_l_own_fields.nd rfl (Or.inl rfl) (pe_call (ok_l_take T) hr rfl T.g_l_take T.F_l_take.kp T.b_l_take .nil passL (pa_cons (pv 0) (pa_cons (pe_callB c_len (by rfl) T.n_len PySem.boot_len (pa_cons (pv 2) pa_nil)) pa_nil))))
    (pss_cons (ps_setLc (i := 7) (own := [("_law_name", 8)]) (g := gName 8) rfl sc_l_own_fields.nd rfl rfl (sw_true rfl rfl rfl (by decide +kernel)) (pi_list (pe_op op_cat (pe_slice sl_list (pv 2) (po_some (pv 6)) po_none) (pe_slice sl_list (pv 2) po_none (po_some (pv 6))))) (blkOk_by (own := [("_law_name", 8)]) (N := ["_law_pen_here", "_law_names_here", "_law_pool", "_law_held", "_law_inherited", "_law_pair", "_law_shift", "_law_free", "_law_name", "_law_own", "_law_k", "_law_mode"]) (sc := defScope s_l_own_fields) (by decide +kernel)) (fun _ _ _ _ _ => pg_name (i := 8) sc_l_own_fields.nd rfl (Or.inl rfl)) (fun _ _ _ _ _ => (pts_one (pt_cmpR (op_notIn_seq : OpR _ _ (rIn K true)) (pv 8) (pv 4) (by rfl)))) (fun _ _ _ _ _ => (pv 8)))
    (pss_cons (ps_set (i := 9) sc_l_own_fields.nd rfl (Or.inl rfl) (pe_lst pa_nil))
    (pss_cons (ps_for (passes_of rfl) rfl (pi_range1 rfl T.n_range (pa_cons (pe_call (ok_l_take T) hr rfl T.g_l_take T.F_l_take.kp T.b_l_take .nil passL (pa_cons (pv 0) (pa_cons (pe_op op_sub pe_int (pe_callB c_len (by rfl) T.n_len PySem.boot_len (pa_cons (pv 3) pa_nil))) pa_nil))) pa_nil)) (pg_name (i := 10) sc_l_own_fields.nd rfl (Or.inl rfl)) (pss_cons (ps_set (i := 11) sc_l_own_fields.nd rfl (Or.inl rfl) (pe_ix ix_list (pe_lst (pa_cons pe_str (pa_cons pe_str pa_nil))) (pe_call (ok_l_take T) hr rfl T.g_l_take T.F_l_take.kp T.b_l_take .nil passL (pa_cons (pv 0) (pa_cons pe_int pa_nil))) (fun _ _ => rfl)))
    (pss_one (ps_expr (pe_bm PySem.F.plainAttrs_list PySem.F.slot_list_append PySem.F.type_list_append mt_append (pv 9) (pa_cons (pe_tup (pa_cons (pe_ix ix_list (pv 7) (pv 10) (fun _ _ => rfl)) (pa_cons (pv 11) (pa_cons (pe_ix ix_list (pv 1) (pe_call (ok_l_take T) hr rfl T.g_l_take T.F_l_take.kp T.b_l_take .nil passL (pa_cons (pv 0) (pa_cons (pe_callB c_len (by rfl) T.n_len PySem.boot_len (pa_cons (pv 1) pa_nil)) pa_nil))) (fun _ _ => rfl)) pa_nil)))) pa_nil))))))
    (pss_one (ps_ret (pe_callTy c_tuple (by rfl) T.n_tuple (by decide +kernel) (pa_cons (pv 9) pa_nil))))))))), ?_⟩
  rw [show L2.start ["_law_pen_here", "_law_names_here", "_law_pool", "_law_held", "_law_inherited", "_law_pair", "_law_shift", "_law_free", "_law_name", "_law_own", "_law_k", "_law_mode"] [V.ref p, V.ref nL, V.ref pL, V.ref hL] = [some (V.ref p), some (V.ref nL), some (V.ref pL), some (V.ref hL), none, none, none, none, none, none, none, none] from rfl]
  walk_at "w_go"
  refine r_ilK (.of eH) (r_lcW walk_list hd hpairs.len (fun _ => true) (fun a y _ => y = V.str a.2) (fun _ _ _ _ h _ => h) (fun _ s => .of (s _ _ eH)) (by rw [← hpairs.len, PySem.sizeLine_eq]; omega) (fun D j a x Hi Hj acc Kt Kf hD ha sI eD y kt kf => ?_) (fun qI ns H1 n1 s1 e1 hr1 => ?_))
  · obtain ⟨rfl, hx⟩ := y
    obtain ⟨x', hx', hpa⟩ := hpairs.left ha
    rw [hx] at hx'
    cases hx'
    obtain ⟨pa, rfl, hpa⟩ := hpa.tx (tx_same sI)
    refine ⟨wipe_set1, ?_⟩
    walk_at "w_go"
    exact kt rfl _ _ (Same.refl _) rfl
  · have hns := all2_map hr1
    rw [List.filter_eq_self.mpr (fun _ _ => rfl)] at hns
    have hns2 : ns = (hd.map (·.2)).map V.str := by rw [hns, List.map_map]; rfl
    rw [hns2] at e1
    have hil : (hd.map (·.2)).length = hd.length := List.length_map _
    have hhl : hvs.length = hd.length := hpairs.len.symm
    clear hr1 hns hns2 hpairs
    have eH1 := s1 _ _ eH
    have eN1 := s1 _ _ eN
    have eP1 := s1 _ _ eP
    have hs1 := hp.step s1
    clear s1 n1
    walk_at "w_go"
    refine r_take hs1.pen (by rw [List.length_map, hpl]; decide) (by rw [List.length_map, hpl]; decide) (fun r H2 a0 a1 s2 => ?_)
    obtain ⟨sh, rfl⟩ := Int.eq_ofNat_of_zero_le a0
    have hp1 := hs1.pen
    have eI2 : H2 qI = _ := s2.at hp1 e1 rfl
    have eH2 : H2 hL = _ := s2.at hp1 eH1 rfl
    have eN2 : H2 nL = _ := s2.at hp1 eN1 rfl
    have eP2 : H2 pL = _ := s2.at hp1 eP1 rfl
    have hs2 := hs1.trans s2
    clear e1 eH1 eN1 eP1 hs1 s2 hp1
    walk_at "w_go"
    rename_i q3 H3 n3 s3 e3 q4 H4 n4 s4 e4
    rw [cut_from, ← List.map_drop] at e3
    rw [cut_upto, ← List.map_take] at e4
    refine r_cat (s4 _ _ e3) e4 (by rw [PySem.sizeLine_eq]; simp only [List.length_map, List.length_drop, List.length_take]; omega) (fun q5 H5 n5 s5 e5 => ?_)
    rw [← List.map_append] at e5
    have hrl : (pool.drop sh ++ pool.take sh).length = 9 := by
      rw [rot_perm.length_eq, hpl]
    have hrn : (pool.drop sh ++ pool.take sh).Nodup := rot_perm.symm.nodup hpn
    have hrm : ∀ x, x ∈ pool.drop sh ++ pool.take sh → x ∈ pool := fun x hx => rot_perm.mem_iff.mp hx
    have hI5 := s5 _ _ (s4 _ _ (s3 _ _ eI2))
    have hH5 := s5 _ _ (s4 _ _ (s3 _ _ eH2))
    have hN5 := s5 _ _ (s4 _ _ (s3 _ _ eN2))
    have hs5 := ((hs2.same s3).same s4).same s5
    clear e3 e4 s3 s4 s5 n3 n4 n5 eI2 eH2 eN2 eP2 hs2
    generalize pool.drop sh ++ pool.take sh = rot at e5 hrl hrn hrm
    have hfl := free_len (inh := hd.map (·.2)) hrn
    refine r_ilK (.of e5) (r_lcW walk_list rot (by rw [List.length_map]) (fun a => !decide (a ∈ hd.map (·.2))) (fun a y _ => y = V.str a) (fun _ _ _ _ h _ => h) (fun _ s => .of (s _ _ e5)) (by rw [PySem.sizeLine_eq, List.length_map, hrl]; omega) (fun D j a x Hi Hj acc Kt Kf hD ha sI eD y kt kf => ?_) (fun qF fs H6 n6 s6 e6 hr6 => ?_))
    · obtain ⟨rfl, hx⟩ := y
      rw [List.getElem?_map, ha] at hx
      cases hx
      refine ⟨wipe_set1, ?_⟩
      walk_at "w_go"
      refine r_inSN (.inl (.of (sI _ _ hI5))) ?_
      walk_at "w_go"
      by_cases hm : a ∈ hd.map (·.2)
      · refine iteF' (by simp [hm]) ?_
        exact kf (by simp [hm]) _ (Same.refl _)
      · refine iteT' (by simp [hm]) ?_
        walk_at "w_go"
        exact kt (by simp [hm]) _ _ (Same.refl _) rfl
    · have hfs := all2_map hr6
      have hfree : ∀ x, x ∈ rot.filter (fun a => !decide (a ∈ hd.map (·.2))) → fieldName x = true ∧ x ∉ hd.map (·.2) := fun x hx => by
        obtain ⟨h1, h2⟩ := List.mem_filter.mp hx
        exact ⟨hpf x (hrm x h1), by simpa using h2⟩
      have hfn : (rot.filter (fun a => !decide (a ∈ hd.map (·.2)))).Nodup := hrn.sublist List.filter_sublist
      rw [hfs] at e6
      replace e6 : H6 qF = some (.lst ((rot.filter (fun a => !decide (a ∈ hd.map (·.2)))).map V.str)) := e6
      generalize rot.filter (fun a => !decide (a ∈ hd.map (·.2))) = free at e6 hfl hfree hfn
      have hH6 := s6 _ _ hH5
      have hN6 := s6 _ _ hN5
      have hs6 := hs5.same s6
      clear hr6 hfs hI5 hH5 hN5 hs5 s6 n6 e5
      walk_at "w_go"
      rename_i qO H7 n7 s7 e7
      have nO : H qO = none := hs6.free n7
      have hH7 := s7 _ _ hH6
      have hN7 := s7 _ _ hN6
      have hF7 := s7 _ _ e6
      have hFO : qF ≠ qO := ne_of_none e6 n7
      have hNO : nL ≠ qO := ne_of_none hN6 n7
      have hs7 := hs6.same s7
      clear hH6 hN6 e6 hs6 s7 n7
      refine r_take hs7.pen (by omega) (by omega) (fun r2 H8 b0 b1 s8 => ?_)
      obtain ⟨m, rfl⟩ := Int.eq_ofNat_of_zero_le b0
      have hp7 := hs7.pen
      have nOp : qO ≠ p := PenAt.ne hp7 e7 rfl
      have hN8 : H8 nL = _ := s8.at hp7 hN7 rfl
      have hF8 : H8 qF = _ := s8.at hp7 hF7 rfl
      have hO8 : H8 qO = _ := s8.at hp7 e7 rfl
      have hs8 := hs7.trans s8
      clear hH7 hN7 hF7 e7 hs7 s8 hp7
      walk_at "w_go"
      refine r_rngK (by omega) (by omega) ?_
      rw [Int.toNat_natCast]
      refine for_range (lo := 0) (n := m) (fun j σ H' => ∃ (v10 v11 : Option V) (own : List Fld) (ys : List V), σ = [some (.ref p), some (.ref nL), some (.ref pL), some (.ref hL), some (.ref qI), none, some (.int (sh : Int)), some (.ref qF), none, some (.ref qO), v10, v11] ∧ PenStep p c H H' ∧ H' nL = some (.lst (all.map V.str)) ∧ H' qF = some (.lst (free.map V.str)) ∧ H' qO = some (.lst ys) ∧ All2 (FldAt H') own ys ∧ own.map (·.1) = free.take j ∧ ∀ f, f ∈ own → f.2.1 ∈ MODESl ∧ f.2.2 ∈ all) ⟨_, _, [], [], rfl, hs8, hN8, hF8, hO8, .nil, rfl, fun f hf => by simp at hf⟩ ?_ ?_
      · rintro j σ H9 hj ⟨v10, v11, own, ys, rfl, hs9, hN9, hF9, hO9, hr9, hof, hok⟩
        clear hs8 hN8 hF8 hO8
        have hyl := hr9.len
        have hol := congrArg List.length hof
        rw [List.length_map, List.length_take] at hol
        have hjf : j < free.length := by omega
        walk_at "w_go"
        rename_i q10 H10 n10 s10 e10
        have hp10 := hs9.pen.same s10
        refine r_take hp10 (by decide) (by decide) (fun r3 H11 c0 c1 s11 => ?_)
        walk_at "w_go"
        refine r_pick ["one", "many"] (s11.at hp10 e10 rfl) rfl c0 c1 (fun md hmd => ?_)
        have hN11 : H11 nL = _ := s11.at hp10 (s10 _ _ hN9) rfl
        have hF11 : H11 qF = _ := s11.at hp10 (s10 _ _ hF9) rfl
        have hO11 : H11 qO = _ := s11.at hp10 (s10 _ _ hO9) rfl
        have hs11 := (hs9.same s10).trans s11
        have tx11 : Tx H9 H11 := (tx_same s10).trans (tx_step hp10 s11)
        clear hN9 hF9 hO9 hs9 s10 s11 e10 hp10
        walk_at "w_go"
        refine r_ixLK hF11 (at_n (v := .str free[j]) (by rw [List.getElem?_map, List.getElem?_eq_getElem hjf]; rfl)) ?_
        walk_at "w_go"
        refine r_take hs11.pen (by rw [List.length_map]; omega) (by rw [List.length_map]; omega) (fun r4 H12 d0 d1 s12 => ?_)
        have hp11 := hs11.pen
        have hN12 : H12 nL = _ := s12.at hp11 hN11 rfl
        have hF12 : H12 qF = _ := s12.at hp11 hF11 rfl
        have hO12 : H12 qO = _ := s12.at hp11 hO11 rfl
        have hs12 := hs11.trans s12
        have tx12 : Tx H9 H12 := tx11.trans (tx_step hp11 s12)
        clear hN11 hF11 hO11 hs11 s12 tx11 hp11
        walk_at "w_go"
        refine r_pick all hN12 rfl d0 (by rwa [List.length_map] at d1) (fun tg htg => ?_)
        walk_at "w_go"
        rename_i q13 H13 n13 s13 e13
        have hO13 := s13 _ _ hO12
        have tx14 : Tx H9 (upd H13 qO (.lst (ys ++ [V.ref q13]))) := (tx12.trans (tx_same s13)).trans (tx_lst hO13)
        refine ⟨_, _, own ++ [(free[j], md, tg)], ys ++ [V.ref q13], rfl, (hs12.same s13).put hp nO, by rw [upd_ne hNO]; exact s13 _ _ hN12, by rw [upd_ne hFO]; exact s13 _ _ hF12, upd_same, ?_, ?_, ?_⟩
        · exact All2.snoc (R := FldAt (upd H13 qO (.lst (ys ++ [V.ref q13])))) ⟨q13, rfl, tx_lst hO13 _ _ e13⟩ (hr9.mono fun _ _ z => z.tx tx14)
        · rw [List.map_append, hof, take_more (List.getElem?_eq_getElem hjf)]
          rfl
        · intro f hf
          rcases List.mem_append.mp hf with z | z
          · exact hok f z
          · simp only [List.mem_cons, List.not_mem_nil, or_false] at z
            subst z
            exact ⟨hmd, htg⟩
      · rintro σ H9 ⟨v10, v11, own, ys, rfl, hs9, hN9, hF9, hO9, hr9, hof, hok⟩
        clear hs8 hN8 hF8 hO8
        have hol := congrArg List.length hof
        rw [List.length_map, List.length_take] at hol
        have hmem : ∀ f, f ∈ own → f.1 ∈ free := fun f hf => by
          have : f.1 ∈ own.map (·.1) := List.mem_map_of_mem hf
          rw [hof] at this
          exact List.mem_of_mem_take this
        walk_at "w_go"
        refine r_tupL (.of hO9) (fun q10 n10 => ?_)
        have sx : Same H9 (upd H9 q10 (.tup ys)) := same_new n10
        refine kQ own _ _ (hs9.same sx) ⟨q10, ys, rfl, upd_same, hr9.mono fun _ _ z => z.tx (tx_same sx)⟩ (fun f hf => ⟨(hfree _ (hmem f hf)).1, (hok f hf).1, (hok f hf).2⟩) (by rw [hof]; exact hfn.sublist (List.take_sublist _ _)) (fun f hf => (hfree _ (hmem f hf)).2) (by omega)
end
end Wm
namespace Wm
open PySem L2

section
variable {P : Program} {w : World} {K : PySem.W.Frag} {mg : Str → Option Value} {base : Heap} {ad : Ad}
theorem ok_l_rows (T : Txt P K mg ad) : FnOk P w K mg base (L2.CX P w) 6 ad.l_rows ad.fd_l_rows ["_law_pen_here", "_law_cap"] spRows := by
  refine T.F_l_rows.okX sc_l_rows (fun vs H Q E h => ?_) (fun cdv A outer s H vs Q E hr h => ?_)
  · obtain ⟨p, c, cap, rfl, _⟩ := h
    rfl
  obtain ⟨p, c, cap, rfl, hp, hc1, hc6, kQ⟩ := h
  refine ⟨_, (pss_cons (ps_set (i := 2) sc_l_rows.nd rfl (Or.inl rfl) (pe_op op_add pe_int (pe_call (ok_l_take T) (hr.mono (by decide)) rfl T.g_l_take T.F_l_take.kp T.b_l_take .nil passL (pa_cons (pv 0) (pa_cons (pv 1) pa_nil)))))
    (pss_cons (ps_set (i := 3) sc_l_rows.nd rfl (Or.inl rfl) (pe_call (ok_l_kind_names T) hr rfl T.g_l_kind_names T.F_l_kind_names.kp T.b_l_kind_names .nil passL (pa_cons (pv 0) (pa_cons (pv 2) pa_nil))))
    (pss_cons (ps_set (i := 4) sc_l_rows.nd rfl (Or.inl rfl) (pe_call (ok_l_field_names T) hr rfl T.g_l_field_names T.F_l_field_names.kp T.b_l_field_names .nil passL (pa_cons (pv 0) (pa_cons pe_int pa_nil))))
    (pss_cons (ps_set (i := 5) sc_l_rows.nd rfl (Or.inl rfl) (pe_lst pa_nil))
    (pss_cons (ps_for (passes_of rfl) rfl (pi_range1 rfl T.n_range (pa_cons (pv 2) pa_nil)) (pg_name (i := 6) sc_l_rows.nd rfl (Or.inl rfl)) (pss_cons (ps_set (i := 7) sc_l_rows.nd rfl (Or.inl rfl) (pe_lst pa_nil))
    (pss_cons (ps_set (i := 8) sc_l_rows.nd rfl (Or.inl rfl) (pe_lst pa_nil))
    (pss_cons (ps_if (pt_cmpR op_gt (pv 6) pe_int (nomark _)) (pss_one (ps_for (passes_of rfl) rfl (pi_range1 rfl T.n_range (pa_cons (pe_call (ok_l_take T) (hr.mono (by decide)) rfl T.g_l_take T.F_l_take.kp T.b_l_take .nil passL (pa_cons (pv 0) (pa_cons pe_int pa_nil))) pa_nil)) (pg_name (i := 9) sc_l_rows.nd rfl (Or.inl rfl)) (pss_cons (ps_set (i := 10) sc_l_rows.nd rfl (Or.inl rfl) (pe_ix ix_list (pv 3) (pe_call (ok_l_take T) (hr.mono (by decide)) rfl T.g_l_take T.F_l_take.kp T.b_l_take .nil passL (pa_cons (pv 0) (pa_cons (pv 6) pa_nil))) (fun _ _ => rfl)))
    (pss_cons (ps_set (i := 11) sc_l_rows.nd rfl (Or.inl rfl) (pe_call (ok_l_merged T) (hr.mono (by decide)) rfl T.g_l_merged T.F_l_merged.kp T.b_l_merged .nil passL (pa_cons (pv 5) (pa_cons (pv 8) (pa_cons (pv 10) pa_nil)))))
    (pss_one (ps_if (PW.pt (pw_and (pt_cmpR op_notIn_seq (pv 10) (pv 7) (by rfl)) (pw_and1 (pt_cmpR op_notNn (pv 11) pe_non (nomark _))))) (pss_cons (ps_expr (pe_bm PySem.F.plainAttrs_list PySem.F.slot_list_append PySem.F.type_list_append mt_append (pv 7) (pa_cons (pv 10) pa_nil)))
    (pss_one (ps_set (i := 8) sc_l_rows.nd rfl (Or.inl rfl) (pv 11)))) pss_nil)))))) pss_nil)
    (pss_cons (ps_set (i := 12) sc_l_rows.nd rfl (Or.inl rfl) (pe_call (ok_l_own_fields T) (hr.mono (by decide)) rfl T.g_l_own_fields T.F_l_own_fields.kp T.b_l_own_fields .nil passL (pa_cons (pv 0) (pa_cons (pv 3) (pa_cons (pv 4) (pa_cons (pv 8) pa_nil))))))
    (pss_cons (ps_set (i := 13) sc_l_rows.nd rfl (Or.inl rfl) (pe_cmpR op_eq (pe_call (ok_l_take T) (hr.mono (by decide)) rfl T.g_l_take T.F_l_take.kp T.b_l_take .nil passL (pa_cons (pv 0) (pa_cons pe_int pa_nil))) pe_int (nomark _)))
    (pss_cons (ps_if (PW.pt (pw_and (pt_cmpR op_eq (pv 6) (pe_op op_sub (pv 2) pe_int) (nomark _)) (pw_and1 (pt_cmpR op_eq (pe_callB c_len (by rfl) T.n_len PySem.boot_len (pa_cons (pe_call (ok_l_concrete T) (hr.mono (by decide)) rfl T.g_l_concrete T.F_l_concrete.kp T.b_l_concrete .nil passL (pa_cons (pv 5) pa_nil)) pa_nil)) pe_int (nomark _))))) (pss_one (ps_set (i := 13) sc_l_rows.nd rfl (Or.inl rfl) pe_bl)) pss_nil)
    (pss_one (ps_expr (pe_bm PySem.F.plainAttrs_list PySem.F.slot_list_append PySem.F.type_list_append mt_append (pv 5) (pa_cons (pe_tup (pa_cons (pe_ix ix_list (pv 3) (pv 6) (fun _ _ => rfl)) (pa_cons (pe_callTy c_tuple (by rfl) T.n_tuple (by decide +kernel) (pa_cons (pv 7) pa_nil)) (pa_cons (pv 13) (pa_cons (pv 12) pa_nil))))) pa_nil)))))))))))
    (pss_one (ps_ret (pv 5)))))))), ?_⟩
  rw [show L2.start ["_law_pen_here", "_law_cap", "_law_count", "_law_names_here", "_law_pool", "_law_rows_here", "_law_k", "_law_bases", "_law_held", "_law_turn", "_law_base", "_law_merged_here", "_law_own", "_law_is_abstract"] [V.ref p, V.int cap] = [some (V.ref p), some (V.int cap), none, none, none, none, none, none, none, none, none, none, none, none] from rfl]
  walk_at "w_go"
  refine r_take hp (by omega) (by omega) (fun r H1 a0 a1 s1 => ?_)
  obtain ⟨r, rfl⟩ := Int.eq_ofNat_of_zero_le a0
  have hr6 : 1 + r ≤ 6 := by omega
  walk_at "w_go"
  rw [show (1 : Int) + (r : Int) = ((1 + r : Nat) : Int) from by omega]
  generalize hN : 1 + r = N at hr6
  have hN1 : 1 ≤ N := by omega
  refine ⟨p, c, N, rfl, s1.pen, by omega, fun nm qN H2 s2 n2 e2 hnl hnn hnk => ?_⟩
  walk_at "w_go"
  have s12 := s1.trans s2
  refine ⟨p, c, 9, rfl, s12.pen, by decide, fun pool qP H3 s3 n3 e3 hpl hpn hpf => ?_⟩
  have eN3 : H3 qN = _ := s3.at s12.pen e2 rfl
  have s13 := s12.trans s3
  have nqN : H qN = none := s1.free n2
  have nqP : H qP = none := s12.free n3
  clear s1 s2 s3 e2 n2 n3 s12
  walk_at "w_go"
  rename_i qR H4 n4 s4 e4
  have nqR : H qR = none := s13.free n4
  have hNR : qN ≠ qR := ne_of_none eN3 n4
  have hPR : qP ≠ qR := ne_of_none e3 n4
  have fr0 : BFr p c qN qP qR nm pool [] H H4 := ⟨s13.same s4, s4 _ _ eN3, s4 _ _ e3, [], e4, .nil⟩
  clear s13 s4 eN3 e3 e4 n4
  refine r_rngK (by omega) (by omega) ?_
  rw [Int.toNat_natCast]
  refine for_range (lo := 0) (n := N) (fun k σ H' => ∃ (v6 v7 v8 v9 v10 v11 v12 v13 : Option V) (rows : List Row), σ = [some (.ref p), some (.int cap), some (.int (N : Int)), some (.ref qN), some (.ref qP), some (.ref qR), v6, v7, v8, v9, v10, v11, v12, v13] ∧ BFr p c qN qP qR nm pool rows H H' ∧ names rows = nm.take k ∧ RowsOk nm rows ∧ (k = N → ∃ r, r ∈ rows ∧ r.abs = false)) ⟨_, _, _, _, _, _, _, _, [], rfl, fr0, rfl, fun j r e => by simp at e, fun z => by omega⟩ ?_ ?_
  · rintro k σ H5 hk ⟨v6, v7, v8, v9, v10, v11, v12, v13, rows, rfl, fr, hnr, ok, _⟩
    have hrl : rows.length = k := by
      have := congrArg List.length hnr
      unfold names at this
      rw [List.length_map, List.length_take] at this
      omega
    clear fr0
    walk_at "w_go"
    rename_i qB H6 n6 s6 e6 qH H7 n7 s7 e7
    have fr7 := (fr.same s6).same s7
    have eB7 := s7 _ _ e6
    have nB : H qB = none := fr.st.free n6
    have hBN : qN ≠ qB := ne_of_none fr.n n6
    have hBP : qP ≠ qB := ne_of_none fr.po n6
    have hBR : qR ≠ qB := by
      obtain ⟨vs, e, _⟩ := fr.r
      exact ne_of_none e n6
    have eH7 : PairsAt H7 qH [] := ⟨[], e7, .nil⟩
    have nHB : qH ≠ qB := (ne_of_none e6 n7).symm
    clear s6 s7 e6 e7 n7 n6 fr
    refine r_ifJ (fun σ H' => ∃ (v9 v10 v11 : Option V) (hA : Addr) (bs : List Str) (hd : Held), σ = [some (.ref p), some (.int cap), some (.int (N : Int)), some (.ref qN), some (.ref qP), some (.ref qR), some (.int (0 + (k : Int))), some (.ref qB), some (.ref hA), v9, v10, v11, v12, v13] ∧ BFr p c qN qP qR nm pool rows H H' ∧ H' qB = some (.lst (bs.map V.str)) ∧ PairsAt H' hA hd ∧ HeldOk rows bs hd ∧ bs.length ≤ 3) ?_ ?_
    · rintro σ H8 ⟨v9, v10, v11, hA, bs, hd, rfl, fr8, eB8, eH8, hok, hb3⟩
      clear fr7 eB7 eH7
      walk_at "w_go"
      refine ⟨p, c, qN, qP, hA, nm, pool, hd, rfl, fr8.st.pen, fr8.n, fr8.po, eH8, hpl, hpn, hpf, by omega, by omega, hok.len, fun own ov H9 s9 hov hown hond hofr hol => ?_⟩
      have fr9 := fr8.step s9
      have eB9 : H9 qB = _ := s9.at fr8.st.pen eB8 rfl
      clear fr8 eB8 eH8 s9
      walk_at "w_go"
      refine r_take fr9.st.pen (by decide) (by decide) (fun ra H10 b0 b1 s10 => ?_)
      have fr10 := fr9.step s10
      have eB10 : H10 qB = _ := s10.at fr9.st.pen eB9 rfl
      have hov10 := hov.tx (tx_step fr9.st.pen s10)
      clear fr9 eB9 s10 hov
      walk_at "w_go"
      refine r_andIf (fun σ H' => ∃ ab : Bool, σ = [some (.ref p), some (.int cap), some (.int (N : Int)), some (.ref qN), some (.ref qP), some (.ref qR), some (.int (0 + (k : Int))), some (.ref qB), some (.ref hA), v9, v10, v11, some ov, some (.bl ab)] ∧ BFr p c qN qP qR nm pool rows H H' ∧ H' qB = some (.lst (bs.map V.str)) ∧ FldsAt H' own ov ∧ (k + 1 = N → concF rows = [] → ab = false)) ?_ ?_
      · rintro σ H11 ⟨ab, rfl, fr, eB, hov, hab⟩
        clear fr10 eB10 hov10
        have hkn : k < nm.length := by omega
        obtain ⟨vs0, eR0, hvs0⟩ := id fr.r
        walk_at "w_go"
        refine r_ixLK fr.n (at_n (v := .str nm[k]) (by rw [List.getElem?_map, List.getElem?_eq_getElem hkn]; rfl)) ?_
        walk_at "w_go"
        refine r_tupL (.of eB) (fun qT nT => ?_)
        have sT : Same H11 (upd H11 qT (.tup (bs.map V.str))) := same_new nT
        have eT : (upd H11 qT (.tup (bs.map V.str))) qT = some (.tup (bs.map V.str)) := upd_same
        generalize upd H11 qT (.tup (bs.map V.str)) = H12 at sT eT ⊢
        have fr12 := fr.same sT
        have hov12 := hov.tx (tx_same sT)
        clear fr hov eB nT sT
        walk_at "w_go"
        rename_i qX H13 n13 s13 e13
        have fr13 := fr12.same s13
        have hov13 := hov12.tx (tx_same s13)
        obtain ⟨vs, eR, hvs⟩ := fr13.r
        have hvl := hvs.len
        refine r_append eR (by rw [PySem.sizeLine_eq]; omega) ?_
        have hrow : RowAt H13 ⟨nm[k], bs, ab, own⟩ (.ref qX) := ⟨qX, _, ov, rfl, e13, ⟨qT, rfl, s13 _ _ eT⟩, hov13⟩
        have hnr2 : names (rows ++ [⟨nm[k], bs, ab, own⟩]) = nm.take (k + 1) := by
          unfold names at hnr ⊢
          rw [List.map_append, hnr, take_more (List.getElem?_eq_getElem hkn)]
          rfl
        have fresh : nm[k] ∉ names rows := by
          rw [hnr]
          intro z
          obtain ⟨j, hj⟩ := List.mem_iff_getElem?.mp z
          rw [List.getElem?_take] at hj
          by_cases hjk : j < k
          · rw [if_pos hjk] at hj
            obtain ⟨h1, h2⟩ := List.getElem?_eq_some_iff.mp hj
            exact List.pairwise_iff_getElem.mp hnn j k h1 hkn hjk h2
          · rw [if_neg hjk] at hj
            cases hj
        refine ⟨_, _, _, _, _, _, _, _, rows ++ [⟨nm[k], bs, ab, own⟩], rfl, fr13.add hp nqR eR hvs hrow hNR hPR, hnr2, ok.snoc (row_ok ok hok hb3 (hnk _ (List.getElem_mem _)) fresh hown hond hofr hol), fun hkN => ?_⟩
        by_cases hcn : concF rows = []
        · exact ⟨⟨nm[k], bs, ab, own⟩, List.mem_append_right _ (by simp), hab hkN hcn⟩
        · obtain ⟨r2, h1, h2⟩ := conc_nil hcn
          exact ⟨r2, List.mem_append_left _ h1, h2⟩
      · intro Nx hNx
        by_cases hkN : k + 1 = N
        · refine iteT' (decide_eq_true (by omega)) ?_
          walk_at "w_go"
          refine ⟨qR, rows, rfl, fr10.r, by omega, fun q11 H11 s11 n11 e11 => ?_⟩
          walk_at "w_go"
          by_cases hcn : concF rows = []
          · refine iteT' (decide_eq_true (by rw [hcn]; rfl)) ?_
            walk_at "w_go"
            exact hNx _ _ ⟨false, rfl, fr10.same s11, s11 _ _ eB10, hov10.tx (tx_same s11), fun _ _ => rfl⟩
          · refine iteF' (decide_eq_false (fun z => hcn (by rw [List.length_map] at z; exact List.length_eq_zero_iff.mp (by omega)))) ?_
            walk_at "w_go"
            exact hNx _ _ ⟨_, rfl, fr10.same s11, s11 _ _ eB10, hov10.tx (tx_same s11), fun _ z => absurd z hcn⟩
        · refine iteF' (decide_eq_false (by omega)) ?_
          walk_at "w_go"
          exact hNx _ _ ⟨_, rfl, fr10, eB10, hov10, fun z => absurd z hkN⟩
    · intro Nx hNx
      by_cases hk0 : k = 0
      · refine iteF' (decide_eq_false (by omega)) ?_
        walk_at "w_go"
        exact hNx _ _ ⟨_, _, _, qH, [], [], rfl, fr7, eB7, eH7, HeldOk.nil rows, by simp⟩
      · refine iteT' (decide_eq_true (by omega)) ?_
        walk_at "w_go"
        refine r_take fr7.st.pen (by decide) (by decide) (fun t H8 b0 b1 s8 => ?_)
        have fr8 := fr7.step s8
        have eB8 : H8 qB = _ := s8.at fr7.st.pen eB7 rfl
        have eH8 := eH7.step fr7.st.pen s8
        clear fr7 eB7 eH7 s8
        walk_at "w_go"
        refine r_rngK (by omega) (by omega) ?_
        refine for_range (lo := 0) (n := t.toNat) (fun j σ H' => ∃ (v9 v10 v11 : Option V) (hA : Addr) (bs : List Str) (hd : Held), σ = [some (.ref p), some (.int cap), some (.int (N : Int)), some (.ref qN), some (.ref qP), some (.ref qR), some (.int (0 + (k : Int))), some (.ref qB), some (.ref hA), v9, v10, v11, v12, v13] ∧ BFr p c qN qP qR nm pool rows H H' ∧ H' qB = some (.lst (bs.map V.str)) ∧ PairsAt H' hA hd ∧ HeldOk rows bs hd ∧ bs.length ≤ j ∧ hA ≠ qB) ⟨_, _, _, qH, [], [], rfl, fr8, eB8, eH8, HeldOk.nil rows, Nat.le_refl _, nHB⟩ ?_ ?_
        · rintro j σ H9 hj ⟨v9, v10, v11, hA, bs, hd, rfl, fr9, eB9, eH9, hok, hbj, hAB⟩
          clear fr8 eB8 eH8
          walk_at "w_go"
          refine r_take fr9.st.pen (by omega) (by omega) (fun u H10 c0 c1 s10 => ?_)
          obtain ⟨u, rfl⟩ := Int.eq_ofNat_of_zero_le c0
          have hun : u < nm.length := by omega
          have fr10 := fr9.step s10
          have eB10 : H10 qB = _ := s10.at fr9.st.pen eB9 rfl
          have eH10 := eH9.step fr9.st.pen s10
          clear fr9 eB9 eH9 s10
          walk_at "w_go"
          refine r_ixLK fr10.n (atI_nat (v := .str nm[u]) (by rw [List.getElem?_map, List.getElem?_eq_getElem hun]; rfl)) ?_
          have hbn : nm[u] ∈ names rows := by
            rw [hnr]
            exact List.mem_iff_getElem?.mpr ⟨u, by rw [List.getElem?_take, if_pos (by omega)]; exact List.getElem?_eq_getElem hun⟩
          walk_at "w_go"
          have skip : ∀ (v : V) (H11 : Hp), Same H10 H11 → ∃ (v9' v10' v11' : Option V) (hA' : Addr) (bs' : List Str) (hd' : Held), [some (.ref p), some (.int cap), some (.int (N : Int)), some (.ref qN), some (.ref qP), some (.ref qR), some (.int (0 + (k : Int))), some (.ref qB), some (.ref hA), some (V.int (0 + (j : Int))), some (V.str nm[u]), some v, v12, v13] = [some (.ref p), some (.int cap), some (.int (N : Int)), some (.ref qN), some (.ref qP), some (.ref qR), some (.int (0 + (k : Int))), some (.ref qB), some (.ref hA'), v9', v10', v11', v12, v13] ∧ BFr p c qN qP qR nm pool rows H H11 ∧ H11 qB = some (.lst (bs'.map V.str)) ∧ PairsAt H11 hA' hd' ∧ HeldOk rows bs' hd' ∧ bs'.length ≤ j + 1 ∧ hA' ≠ qB := fun v H11 s11 =>
            ⟨_, _, _, hA, bs, hd, rfl, fr10.same s11, s11 _ _ eB10, eH10.same s11, hok, Nat.le_succ_of_le hbj, hAB⟩
          refine ⟨qR, hA, rows, nm, hd, nm[u], rfl, fr10.r, ok, by omega, eH10, hok.len, hbn, fun H11 s11 => ?_, fun hm4 hmn q11 H11 s11 n11 e11 => ?_⟩
          · have sk := skip .non H11 s11
            have eB11 := s11 _ _ eB10
            clear skip s11
            walk_at "w_go"
            refine r_inSN (.inl (.of eB11)) ?_
            walk_at "w_go"
            by_cases hin : nm[u] ∈ bs
            · refine iteF' (by simp [hin]) ?_
              walk_at "w_go"
              exact sk
            · refine iteT' (by simp [hin]) ?_
              walk_at "w_go"
              try refine iteF' (by simp) ?_
              walk_at "w_go"
              exact sk
          · have sk := skip (.ref q11) H11 s11
            have eB11 := s11 _ _ eB10
            have fr11 := fr10.same s11
            have n11B : q11 ≠ qB := (ne_of_none eB10 n11).symm
            clear skip s11
            walk_at "w_go"
            refine r_inSN (.inl (.of eB11)) ?_
            walk_at "w_go"
            by_cases hin : nm[u] ∈ bs
            · refine iteF' (by simp [hin]) ?_
              walk_at "w_go"
              exact sk
            · refine iteT' (by simp [hin]) ?_
              walk_at "w_go"
              refine iteT' (by simp) ?_
              walk_at "w_go"
              refine ⟨_, _, _, q11, bs ++ [nm[u]], mergeF hd (fieldsF rows nm[u]), rfl, fr11.put hp nB eB11 hBN hBP hBR, by rw [upd_same, List.map_append]; rfl, ?_, hok.add hbn hin hm4 hmn, by rw [List.length_append]; simp only [List.length_cons, List.length_nil]; omega, n11B⟩
              obtain ⟨vs, e, hv⟩ := e11
              exact ⟨vs, by rw [upd_ne n11B]; exact e, all2_pairs hv (tx_lst eB11)⟩
        · rintro σ H9 ⟨v9, v10, v11, hA, bs, hd, rfl, fr9, eB9, eH9, hok, hbj, hAB⟩
          exact hNx _ _ ⟨_, _, _, hA, bs, hd, rfl, fr9, eB9, eH9, hok, by omega⟩
  · rintro σ H5 ⟨v6, v7, v8, v9, v10, v11, v12, v13, rows, rfl, fr, hnr, ok, hcc⟩
    walk_at "w_go"
    have hnm : names rows = nm := by rw [hnr, ← hnl, List.take_length]
    have hrl : rows.length = N := by
      have := congrArg List.length hnm
      unfold names at this
      rw [List.length_map] at this
      omega
    exact kQ rows qR H5 fr.st nqR fr.r ⟨by rw [hnm]; exact ok, by omega, by omega, hcc rfl⟩
end
end Wm
namespace Wm
open PySem L2

section
variable {P : Program} {w : World} {K : PySem.W.Frag} {mg : Str → Option Value} {base : Heap} {ad : Ad}
theorem ok_is_letters (T : Txt P K mg ad) : FnOk P w K mg base (L2.CX P w) 2 ad.is_letters ad.fd_is_letters ["text"] spLow := by
  refine T.F_is_letters.okX sc_is_letters (fun vs H Q E h => ?_) (fun cdv A outer s H vs Q E hr h => ?_)
  · obtain ⟨x, rfl, _⟩ := h
    rfl
  obtain ⟨x, rfl, hz, kQ⟩ := h
  obtain ⟨uLETTERS, gLETTERS, rLETTERS⟩ := T.u_LETTERS
  refine ⟨_, (pss_one (ps_ret (pe_callB (cr_all rfl) (by rfl) T.n_all (by decide +kernel) (pa_cons (pe_lc (own := [("letter", 1)]) (g := gName 1) (tt := tYes) rfl sc_is_letters.nd (pi_str (pv 0)) (blkOk_by (own := [("letter", 1)]) (N := ["text", "letter"]) (sc := defScope s_is_letters) (by decide +kernel)) (fun _ _ _ _ _ => pg_name (i := 1) sc_is_letters.nd rfl (Or.inl rfl)) (fun _ _ _ _ _ => pts_nil) (fun _ _ _ _ _ => (pe_cmpR op_inSign (pv 1) (pe_glob (v := .str LOWS) (by rfl) gLETTERS rLETTERS) (by rfl)))) pa_nil)))), ?_⟩
  rw [show L2.start ["text", "letter"] [V.str x] = [some (V.str x), none] from rfl]
  walk_at "w_go"
  have hzz : x.cps.size ≤ 100 := hz
  refine r_lcW walk_str x.cps.toList (by rw [Array.length_toList]) (fun _ => true) (fun a y _ => y = V.bl (isLow a)) (fun _ _ _ _ h _ => h) (fun _ _ => trivial) (by rw [PySem.sizeLine_eq]; omega) (fun D j a y Hi Hj acc Kt Kf hD ha sI eD yy kt kf => ?_) (fun q ys H1 n1 s1 e1 hr1 => ?_)
  · obtain ⟨rfl, c, hc, rfl⟩ := yy
    have hca : c = a := by
      rw [Array.getElem?_toList, hc] at ha
      exact Option.some.inj ha
    subst hca
    refine ⟨wipe_set1, ?_⟩
    walk_at "w_go"
    exact kt rfl _ _ (Same.refl _) (by rw [low_mem])
  · have hys := all2_map hr1
    rw [List.filter_eq_self.mpr (fun _ _ => rfl)] at hys
    walk_at "w_go"
    refine r_allK (bs := x.cps.toList.map isLow) (.of (by rw [e1, hys, List.map_map]; rfl)) ?_
    rw [List.all_map]
    exact kQ _ s1
theorem ok_is_kind_name (T : Txt P K mg ad) : FnOk P w K mg base (L2.CX P w) 3 ad.is_kind_name ad.fd_is_kind_name ["thing"] spKn := by
  refine T.F_is_kind_name.okX sc_is_kind_name (fun vs H Q E h => ?_) (fun cdv A outer s H vs Q E hr h => ?_)
  · obtain ⟨v, b, rfl, _⟩ := h
    rfl
  obtain ⟨v, b, rfl, hk, kQ⟩ := h
  obtain ⟨uCAPITALS, gCAPITALS, rCAPITALS⟩ := T.u_CAPITALS
  refine ⟨_, (pss_cons (ps_if (PW.pt (pw_or (pt_not (pt_val (pe_callB call_isi (by rfl) T.n_isinstance (by decide +kernel) (pa_cons (pv 0) (pa_cons (pe_bltn (v := .ty "str") (by rfl) T.n_str (by decide +kernel) rfl) pa_nil))))) (pw_or1 (pt_not (pt_chain op_le op_le pe_int (pe_callB c_lenS (by rfl) T.n_len PySem.boot_len (pa_cons (pv 0) pa_nil)) pe_int))))) (pss_one (ps_ret pe_bl)) pss_nil)
    (pss_one (ps_ret (pe_and (pe_cmpR op_inSign (pe_ix ix_str (pv 0) pe_int (fun _ _ => rfl)) (pe_glob (v := .str CAPS) (by rfl) gCAPITALS rCAPITALS) (by rfl)) (pe_one (pe_call (ok_is_letters T) hr rfl T.g_is_letters T.F_is_letters.kp T.b_is_letters .nil passL (pa_cons (pe_slice sl_str (pv 0) (po_some pe_int) po_none) pa_nil))))))), ?_⟩
  rw [show L2.start ["thing"] [v] = [some (v)] from rfl]
  rcases hk with ⟨x, rfl, hz, rfl⟩ | ⟨hany, hns, rfl⟩
  · walk_at "w_go"
    refine r_isi (.base (.str x)) rfl ?_
    walk_at "w_go"
    refine r_lenS hz ?_
    walk_at "w_go"
    by_cases h1 : 1 ≤ x.length
    · refine iteT' (decide_eq_true (by omega)) ?_
      walk_at "w_go"
      by_cases h8 : x.length ≤ 8
      · refine iteF' (by simp; omega) ?_
        obtain ⟨c, r, e, ek, e1, e2⟩ := kind_split x h1 h8
        walk_at "w_go"
        refine r_ixS hz (c := c) (by rw [e]; exact atI_nat (j := 0) rfl) ?_
        walk_at "w_go"
        rw [up_mem]
        cases hu : isUp c
        · refine iteF' rfl ?_
          have := kQ _ (Same.refl _)
          rw [ek, hu, Bool.false_and] at this
          exact this
        · refine iteT' rfl ?_
          walk_at "w_go"
          refine ⟨_, rfl, by rw [e2]; have : x.length = r.length + 1 := (by show x.cps.size = _; rw [← Array.length_toList, e]; rfl); omega, fun H2 s2 => ?_⟩
          rw [e1]
          have := kQ _ s2
          rw [ek, hu, Bool.true_and] at this
          exact this
      · refine iteT' (by rw [Bool.not_eq_true']; exact decide_eq_false (by omega)) ?_
        walk_at "w_go"
        have := kQ _ (Same.refl _)
        unfold kindName at this
        rw [decide_eq_false h8] at this
        simpa using this
    · refine iteF' (decide_eq_false (by omega)) ?_
      walk_at "w_go"
      have := kQ _ (Same.refl _)
      unfold kindName at this
      rw [decide_eq_false h1] at this
      simpa using this
  · obtain ⟨t, b, h1, h2, h3⟩ := hany.isStr (K := K)
    walk_at "w_go"
    refine r_isi h1 h2 ?_
    have hb : b = false := by
      cases b
      · rfl
      · obtain ⟨x, hx⟩ := h3.mp rfl
        exact absurd hx (hns x)
    subst hb
    walk_at "w_go"
    exact kQ _ (Same.refl _)
theorem ok_is_field_name (T : Txt P K mg ad) : FnOk P w K mg base (L2.CX P w) 3 ad.is_field_name ad.fd_is_field_name ["thing"] spFn := by
  refine T.F_is_field_name.okX sc_is_field_name (fun vs H Q E h => ?_) (fun cdv A outer s H vs Q E hr h => ?_)
  · obtain ⟨v, rfl, _⟩ := h
    rfl
  obtain ⟨x, rfl, hz, kQ⟩ := h
  refine ⟨_, (pss_cons (ps_if (PW.pt (pw_or (pt_not (pt_val (pe_callB call_isi (by rfl) T.n_isinstance (by decide +kernel) (pa_cons (pv 0) (pa_cons (pe_bltn (v := .ty "str") (by rfl) T.n_str (by decide +kernel) rfl) pa_nil))))) (pw_or1 (pt_not (pt_chain op_le op_le pe_int (pe_callB c_lenS (by rfl) T.n_len PySem.boot_len (pa_cons (pv 0) pa_nil)) pe_int))))) (pss_one (ps_ret pe_bl)) pss_nil)
    (pss_one (ps_ret (pe_and (pe_call (ok_is_letters T) hr rfl T.g_is_letters T.F_is_letters.kp T.b_is_letters .nil passL (pa_cons (pv 0) pa_nil)) (pe_one (pe_cmpR op_notIn_seq (pv 0) (pe_glob (v := .ref ad.RESERVED) rfl T.g_RESERVED rfl) (by rfl))))))), ?_⟩
  rw [show L2.start ["thing"] [V.str x] = [some (V.str x)] from rfl]
  walk_at "w_go"
  refine r_isi (.base (.str x)) rfl ?_
  walk_at "w_go"
  refine r_lenS hz ?_
  walk_at "w_go"
  by_cases h1 : 1 ≤ x.length
  · refine iteT' (decide_eq_true (by omega)) ?_
    walk_at "w_go"
    by_cases h8 : x.length ≤ 8
    · refine iteF' (by simp; omega) ?_
      walk_at "w_go"
      refine ⟨x, rfl, by omega, fun H2 s2 => ?_⟩
      have fin : ∀ b, b = fieldName x → Q (.bl b) H2 := fun b e => e ▸ kQ _ s2
      walk_at "w_go"
      cases hu : x.cps.toList.all isLow
      · refine iteF' rfl ?_
        refine fin _ ?_
        unfold fieldName
        rw [hu, decide_eq_true h1, decide_eq_true h8] <;> rfl
      · refine iteT' rfl ?_
        walk_at "w_go"
        refine r_inSN (.inr (T.c_RESERVED _)) (fin _ ?_)
        unfold fieldName
        rw [hu, decide_eq_true h1, decide_eq_true h8] <;> rfl
    · refine iteT' (by rw [Bool.not_eq_true']; exact decide_eq_false (by omega)) ?_
      walk_at "w_go"
      have := kQ _ (Same.refl _)
      unfold fieldName at this
      rw [decide_eq_false h8] at this
      simpa using this
  · refine iteF' (decide_eq_false (by omega)) ?_
    walk_at "w_go"
    have := kQ _ (Same.refl _)
    unfold fieldName at this
    rw [decide_eq_false h1] at this
    simpa using this
theorem ok_is_mode (T : Txt P K mg ad) : FnOk P w K mg base (L2.CX P w) 2 ad.is_mode ad.fd_is_mode ["thing"] spMode := by
  refine T.F_is_mode.okX sc_is_mode (fun vs H Q E h => ?_) (fun cdv A outer s H vs Q E hr h => ?_)
  · obtain ⟨v, rfl, _⟩ := h
    rfl
  obtain ⟨x, rfl, kQ⟩ := h
  refine ⟨_, (pss_one (ps_ret (pe_and (pe_callB call_isi (by rfl) T.n_isinstance (by decide +kernel) (pa_cons (pv 0) (pa_cons (pe_bltn (v := .ty "str") (by rfl) T.n_str (by decide +kernel) rfl) pa_nil))) (pe_one (pe_cmpR op_in_seq (pv 0) (pe_glob (v := .ref ad.MODES) rfl T.g_MODES rfl) (by rfl)))))), ?_⟩
  rw [show L2.start ["thing"] [V.str x] = [some (V.str x)] from rfl]
  walk_at "w_go"
  refine r_isi (.base (.str x)) rfl ?_
  walk_at "w_go"
  exact r_inSP (.inr (T.c_MODES _)) kQ
theorem ok_is_field (T : Txt P K mg ad) : FnOk P w K mg base (L2.CX P w) 4 ad.is_field ad.fd_is_field ["thing", "targets"] spFldOk := by
  refine T.F_is_field.okX sc_is_field (fun vs H Q E h => ?_) (fun cdv A outer s H vs Q E hr h => ?_)
  · obtain ⟨f, v, Ta, ts, rfl, _⟩ := h
    rfl
  obtain ⟨f, v, Ta, ts, rfl, ⟨a, rfl, ea⟩, eT, hz, ⟨f1, f2, f3⟩, f4, kQ⟩ := h
  refine ⟨_, (pss_cons (ps_if (PW.pt (pw_or (pt_not (pt_val (pe_callB call_isi (by rfl) T.n_isinstance (by decide +kernel) (pa_cons (pv 0) (pa_cons (pe_bltn (v := .ty "tuple") (by rfl) T.n_tuple (by decide +kernel) rfl) pa_nil))))) (pw_or1 (pt_cmpR op_ne (pe_callB c_len (by rfl) T.n_len PySem.boot_len (pa_cons (pv 0) pa_nil)) pe_int (nomark _))))) (pss_one (ps_ret pe_bl)) pss_nil)
    (pss_cons (ps_asg (pv 0) (pg_tup rfl (pgs_cons (pg_name (i := 2) sc_is_field.nd rfl (Or.inl rfl)) (pgs_cons (pg_name (i := 3) sc_is_field.nd rfl (Or.inl rfl)) (pgs_cons (pg_name (i := 4) sc_is_field.nd rfl (Or.inl rfl)) pgs_nil)))))
    (pss_one (ps_ret (pe_and (pe_call (ok_is_field_name T) hr rfl T.g_is_field_name T.F_is_field_name.kp T.b_is_field_name .nil passL (pa_cons (pv 2) pa_nil)) (pe_and (pe_call (ok_is_mode T) (hr.mono (by decide)) rfl T.g_is_mode T.F_is_mode.kp T.b_is_mode .nil passL (pa_cons (pv 3) pa_nil)) (pe_and (pe_call (ok_is_kind_name T) hr rfl T.g_is_kind_name T.F_is_kind_name.kp T.b_is_kind_name .nil passL (pa_cons (pv 4) pa_nil)) (pe_one (pe_cmpR op_in_seq (pv 4) (pv 1) (by rfl)))))))))), ?_⟩
  rw [show L2.start ["thing", "targets", "name", "mode", "target"] [V.ref a, V.ref Ta] = [some (V.ref a), some (V.ref Ta), none, none, none] from rfl]
  have l1 := fieldName_len f1
  have l2 := kindName_len f4
  walk_at "w_go"
  refine r_isi (.base (.tup ea)) rfl ?_
  walk_at "w_go"
  refine iteF' (by rw [Bool.not_eq_false']; exact decide_eq_true rfl) ?_
  walk_at "w_go"
  refine ⟨f.1, rfl, by rw [PySem.sizeLine_eq]; omega, fun H1 s1 => ?_⟩
  rw [f1]
  walk_at "w_go"
  refine ⟨f.2.1, rfl, ?_⟩
  rw [decide_eq_true f2]
  walk_at "w_go"
  refine ⟨.str f.2.2, true, rfl, .inl ⟨_, rfl, by rw [PySem.sizeLine_eq]; omega, f4.symm⟩, fun H2 s2 => ?_⟩
  walk_at "w_go"
  refine r_inSP (.inl (.of (s2 _ _ (s1 _ _ eT)))) ?_
  rw [decide_eq_true f3]
  exact kQ _ (s1.trans s2)
theorem ok_is_bases (T : Txt P K mg ad) : FnOk P w K mg base (L2.CX P w) 4 ad.is_bases ad.fd_is_bases ["thing", "names"] spBasesOk := by
  refine T.F_is_bases.okX sc_is_bases (fun vs H Q E h => ?_) (fun cdv A outer s H vs Q E hr h => ?_)
  · obtain ⟨ss, v, d, kvs, rfl, _⟩ := h
    rfl
  obtain ⟨ss, v, d, kvs, rfl, ⟨a, rfl, ea⟩, ed, hl, hnd, hall, kQ⟩ := h
  obtain ⟨uMOST_BASES, gMOST_BASES, rMOST_BASES⟩ := T.u_MOST_BASES
  refine ⟨_, (pss_cons (ps_if (PW.pt (pw_or (pt_not (pt_val (pe_callB call_isi (by rfl) T.n_isinstance (by decide +kernel) (pa_cons (pv 0) (pa_cons (pe_bltn (v := .ty "tuple") (by rfl) T.n_tuple (by decide +kernel) rfl) pa_nil))))) (pw_or1 (pt_cmpR op_gt (pe_callB c_len (by rfl) T.n_len PySem.boot_len (pa_cons (pv 0) pa_nil)) (pe_glob (v := .int 3) (by rfl) gMOST_BASES rMOST_BASES) (nomark _))))) (pss_one (ps_ret pe_bl)) pss_nil)
    (pss_cons (ps_if (pt_not (pt_val (pe_callB (cr_all rfl) (by rfl) T.n_all (by decide +kernel) (pa_cons (pe_lc (own := [("name", 2)]) (g := gName 2) (tt := tYes) rfl sc_is_bases.nd (pi_tup (pv 0)) (blkOk_by (own := [("name", 2)]) (N := ["thing", "names", "name"]) (sc := defScope s_is_bases) (by decide +kernel)) (fun _ _ _ _ _ => pg_name (i := 2) sc_is_bases.nd rfl (Or.inl rfl)) (fun _ _ _ _ _ => pts_nil) (fun _ _ _ _ _ => (pe_and (pe_call (ok_is_kind_name T) hr rfl T.g_is_kind_name T.F_is_kind_name.kp T.b_is_kind_name .nil passL (pa_cons (pv 2) pa_nil)) (pe_one (pe_cmp (pc_din (hu_of hr) (pv 2) (pv 1))))))) pa_nil)))) (pss_one (ps_ret pe_bl)) pss_nil)
    (pss_one (ps_ret (pe_cmpR op_eq (pe_lenSetS (by rfl) T.n_len (by rfl) T.n_set (pv 0)) (pe_callB c_len (by rfl) T.n_len PySem.boot_len (pa_cons (pv 0) pa_nil)) (nomark _)))))), ?_⟩
  rw [show L2.start ["thing", "names", "name"] [V.ref a, V.ref d] = [some (V.ref a), some (V.ref d), none] from rfl]
  walk_at "w_go"
  refine r_isi (.base (.tup ea)) rfl ?_
  walk_at "w_go"
  refine iteF' (by simp; omega) ?_
  walk_at "w_go"
  refine r_itK (.of ea) ?_
  refine r_lcW walk_tup ss (by rw [List.length_map]) (fun _ => true) (fun a y _ => y = V.bl true) (fun _ _ _ _ h _ => h) (fun _ s => .of (s _ _ ea)) (by rw [PySem.sizeLine_eq, List.length_map]; omega) (fun D j x y Hi Hj acc Kt Kf hD ha sI eD yy kt kf => ?_) (fun q ys H1 n1 s1 e1 hr1 => ?_)
  · obtain ⟨rfl, hx⟩ := yy
    obtain ⟨x', rfl, hx'⟩ := str_ix hx
    rw [ha] at hx'
    cases hx'
    obtain ⟨k1, k2⟩ := hall x (List.mem_of_getElem? ha)
    have l1 := kindName_len k1
    refine ⟨wipe_set1, ?_⟩
    walk_at "w_go"
    refine ⟨.str x, true, rfl, .inl ⟨_, rfl, by rw [PySem.sizeLine_eq]; omega, k1.symm⟩, fun H2 s2 => ?_⟩
    walk_at "w_go"
    refine ⟨d, _, rfl, DGet.k (k := .inr x) (s2 _ _ (sI _ _ ed)), ?_⟩
    exact kt rfl _ _ s2 (by rw [k2])
  · have hys := all2_map hr1
    rw [List.filter_eq_self.mpr (fun _ _ => rfl)] at hys
    walk_at "w_go"
    refine r_allK (bs := ss.map fun _ => true) (.of (by rw [e1, hys, List.map_map]; rfl)) ?_
    refine ⟨_, rfl, ?_⟩
    refine iteF' (by simp) ?_
    walk_at "w_go"
    refine ⟨a, ss, rfl, .inr (.of (s1 _ _ ea)), by omega, ?_⟩
    have ea1 := s1 _ _ ea
    have := kQ _ s1
    rw [nub_nodup hnd]
    walk_at "w_go"
    rw [List.length_map]
    simpa using this
end
end Wm
namespace Wm
open PySem L2

section
variable {P : Program} {w : World} {K : PySem.W.Frag} {mg : Str → Option Value} {base : Heap} {ad : Ad}
theorem ok_Kind_init (T : Txt P K mg ad) : FnOk P w K mg base (L2.CX P w) 2 ad.Kind_init ad.fd_Kind_init ["self", "row", "known"] (spKInit ad.Kind) := by
  refine T.F_Kind_init.okX sc_Kind_init (fun vs H Q E h => ?_) (fun cdv A outer s H vs Q E hr h => ?_)
  · obtain ⟨a, dx, r, pre, all, v, d, kvs, rfl, _⟩ := h
    rfl
  obtain ⟨a, dx, r, pre, all, v, d, kvs, rfl, ea, ⟨ra, bv, ov, rfl, era, ⟨ba, rfl, eba⟩, ⟨oa, ovs, rfl, eoa, hown⟩⟩, hkn, hok, hpl, kQ⟩ := h
  refine ⟨_, (pss_cons (ps_fld (pv 0) (pe_ix ix_tup (pv 1) pe_int (fun _ _ => rfl)) rfl)
    (pss_cons (ps_fld (pv 0) (pe_ix ix_tup (pv 1) pe_int (fun _ _ => rfl)) rfl)
    (pss_cons (ps_fld (pv 0) (pe_ix ix_tup (pv 1) pe_int (fun _ _ => rfl)) rfl)
    (pss_cons (ps_fld (pv 0) (pe_ix ix_tup (pv 1) pe_int (fun _ _ => rfl)) rfl)
    (pss_cons (ps_set (i := 3) sc_Kind_init.nd rfl (Or.inr rfl) (pe_lst (pa_cons (pe_ix ix_tup (pv 1) pe_int (fun _ _ => rfl)) pa_nil)))
    (pss_cons (ps_for (passes_of rfl) rfl (pi_tup (pe_ix ix_tup (pv 1) pe_int (fun _ _ => rfl))) (pg_name (i := 4) sc_Kind_init.nd rfl (Or.inl rfl)) (pss_one (ps_expr (pe_bm PySem.F.plainAttrs_list PySem.F.slot_list_extend PySem.F.type_list_extend mt_extT (pv 3) (pa_cons (pe_fld (pe_dget (hu_of hr) (pv 2) (pv 4) (fun _ _ => rfl)) rfl) pa_nil)))))
    (pss_cons (ps_fld (pv 0) (pe_callTy c_tuple (by rfl) T.n_tuple (by decide +kernel) (pa_cons (pe_lc (own := [("at", 5), ("name", 6)]) (g := gTup K 2 (gCons (gName 5) (gCons (gName 6) gNil))) rfl sc_Kind_init.nd (pi_enum (by rfl) T.n_enumerate (pa_cons (pv 3) pa_nil)) (blkOk_by (own := [("at", 5), ("name", 6)]) (N := ["self", "row", "known", "line", "base", "at", "name", "fields", "owned", "field", "mode", "target"]) (sc := defScope s_Kind_init) (by decide +kernel)) (fun _ _ _ _ _ => pg_tup rfl (pgs_cons (pg_name (i := 5) sc_Kind_init.nd rfl (Or.inl rfl)) (pgs_cons (pg_name (i := 6) sc_Kind_init.nd rfl (Or.inl rfl)) pgs_nil))) (fun _ _ _ _ _ => (pts_one (pt_cmpR (op_notIn_seq : OpR _ _ (rIn K true)) (pv 6) (pe_slice (sl_list : SlR _ (rSlL K)) (pv 3) (po_some (pe_op op_add (pv 5) pe_int)) po_none) (by rfl)))) (fun _ _ _ _ _ => (pv 6))) pa_nil)) rfl)
    (pss_cons (ps_set (i := 7) sc_Kind_init.nd rfl (Or.inl rfl) (pe_lst pa_nil))
    (pss_cons (ps_for (passes_of rfl) rfl (pi_reversed (by rfl) T.n_reversed (pa_cons (pe_callTy c_list (by rfl) T.n_list (by decide +kernel) (pa_cons (pe_fld (pv 0) rfl) pa_nil)) pa_nil)) (pg_name (i := 6) sc_Kind_init.nd rfl (Or.inl rfl)) (pss_cons (ps_set (i := 8) sc_Kind_init.nd rfl (Or.inl rfl) (pe_ifExp (pt_cmpR op_eq (pv 6) (pe_fld (pv 0) rfl) (nomark _)) (pe_fld (pv 0) rfl) (pe_fld (pe_dget (hu_of hr) (pv 2) (pv 6) (fun _ _ => rfl)) rfl)))
    (pss_one (ps_for (passes_of rfl) rfl (pi_tup (pv 8)) (pg_tup rfl (pgs_cons (pg_name (i := 9) sc_Kind_init.nd rfl (Or.inl rfl)) (pgs_cons (pg_name (i := 10) sc_Kind_init.nd rfl (Or.inl rfl)) (pgs_cons (pg_name (i := 11) sc_Kind_init.nd rfl (Or.inl rfl)) pgs_nil)))) (pss_one (ps_expr (pe_bm PySem.F.plainAttrs_list PySem.F.slot_list_append PySem.F.type_list_append mt_append (pv 7) (pa_cons (pe_tup (pa_cons (pv 9) (pa_cons (pv 10) (pa_cons (pv 11) (pa_cons (pv 6) pa_nil))))) pa_nil))))))))
    (pss_one (ps_fld (pv 0) (pe_callTy c_tuple (by rfl) T.n_tuple (by decide +kernel) (pa_cons (pv 7) pa_nil)) rfl))))))))))), ?_⟩
  rw [show L2.start ["self", "row", "known", "line", "base", "at", "name", "fields", "owned", "field", "mode", "target"] [V.ref a, V.ref ra, V.ref d] = [some (V.ref a), some (V.ref ra), some (V.ref d), none, none, none, none, none, none, none, none, none] from rfl]
  have cl := T.ow_Kind.cl
  have f1 := T.no_Kind_name
  have f2 := T.no_Kind_bases
  have f3 := T.no_Kind_is_abstract
  have f4' := T.no_Kind_own
  have f5 := T.no_Kind_line
  have f6 := T.no_Kind_fields
  have okr := hok.last
  have okp := hok.init
  walk_at "w_go"
  rename_i L H1 n1 s1 e1
  have b0 : But a H _ := ((((But.refl a H).self (o := .ins ad.Kind dx (putF "name" (V.str r.name) []))).self (o := .ins ad.Kind dx (putF "bases" (V.ref ba) (putF "name" (V.str r.name) [])))).self (o := .ins ad.Kind dx (putF "is_abstract" (V.bl r.abs) (putF "bases" (V.ref ba) (putF "name" (V.str r.name) []))))).self (o := .ins ad.Kind dx (putF "own" (V.ref oa) (putF "is_abstract" (V.bl r.abs) (putF "bases" (V.ref ba) (putF "name" (V.str r.name) [])))))
  have nL : H L = none := b0.free upd_same n1
  have b1 : But a H H1 := b0.same s1
  have ea1 : H1 a = some (.ins ad.Kind dx [("name", V.str r.name), ("bases", V.ref ba), ("is_abstract", V.bl r.abs), ("own", V.ref oa)]) := s1 _ _ upd_same
  clear b0 n1 s1
  have naL : a ≠ L := fun z => by
    rw [z, nL] at ea
    cases ea
  have hb := okp.bs
  have ntx : ∀ {H' : Hp}, But a H H' → Tx H H' := fun b => b.tx ea
  refine r_itK (.of (ntx b1 _ _ eba)) (for_tup (K := K) (a := ba) (xs := r.bases.map V.str) (fun j σ H' => ∃ (v4 : Option V), σ = [some (.ref a), some (.ref ra), some (.ref d), some (.ref L), v4, none, none, none, none, none, none, none] ∧ But a H H' ∧ H' a = some (.ins ad.Kind dx [("name", V.str r.name), ("bases", V.ref ba), ("is_abstract", V.bl r.abs), ("own", V.ref oa)]) ∧ H' L = some (.lst ((r.name :: (r.bases.take j).flatMap (lineF pre)).map V.str))) ⟨none, rfl, b1, ea1, e1⟩ ?_ ?_ ?_)
  · rintro j σ H' _ ⟨v4, rfl, b2, _⟩
    exact .of (ntx b2 _ _ eba)
  · rintro j x σ H' hj ⟨v4, rfl, b2, ea2, eL2⟩
    obtain ⟨b, rfl, hbj⟩ := str_ix hj
    have hbn := okr.bsub b (List.mem_of_getElem? hbj)
    have kn2 := hkn.butI ea b2
    obtain ⟨r0, v0, hr0, rfl, hv0, ka, kdx, kbv, kov, kla, kfa, kfvs, rfl, kin⟩ := known_some kn2 hbn
    have hl1 : ((r.bases.take j).flatMap (lineF pre)).length ≤ 3 * 6 := Nat.le_trans (flat_le (k := 6) fun x _ => Nat.le_trans (line_len hb x) (by omega)) (Nat.mul_le_mul (Nat.le_trans (by rw [List.length_take]; exact Nat.min_le_right _ _) okr.blen) (Nat.le_refl _))
    have hl2 := line_len hb r0.name
    have hd2 := kn2.at_
    have hk2 := kin.at_
    have hkl := kin.line
    walk_at "w_go"
    refine r_dgetK hd2 hv0 ?_
    refine r_fldK hk2 cl f5 rfl ?_
    walk_at "w_go"
    refine r_extT eL2 hkl (by rw [PySem.sizeLine_eq]; simp only [List.length_map, List.length_cons]; omega) ?_
    refine ⟨_, rfl, b2.put nL, by rw [upd_ne naL]; exact ea2, ?_⟩
    rw [upd_same, ← List.map_append, take_flat hbj]
    rfl
  · rintro σ H' ⟨v4, rfl, b2, ea2, eL2⟩
    rw [List.length_map, List.take_length] at eL2
    have hl1 : (r.bases.flatMap (lineF pre)).length ≤ 3 * 6 := Nat.le_trans (flat_le (k := 6) fun x _ => Nat.le_trans (line_len hb x) (by omega)) (Nat.mul_le_mul okr.blen (Nat.le_refl _))
    have hlz : (r.name :: r.bases.flatMap (lineF pre)).length ≤ 19 := by
      rw [List.length_cons]
      omega
    have eline := line_new (rows := pre) (r := r) okr.fresh
    generalize hline : (r.name :: r.bases.flatMap (lineF pre)) = line at eL2 hlz eline
    clear hl1 e1 b1 ea1
    walk_at "w_go"
    refine r_ieK (.of eL2) ?_
    refine r_lcW (walk_enum (K := K) (a := L) (xs := line.map V.str)) (sufs line) (by rw [sufs_len, List.length_map]) (fun a => !decide (a.1 ∈ a.2)) (fun a y _ => y = V.str a.1) (fun _ _ _ _ h _ => h) (fun _ s => .of (s _ _ eL2)) (by rw [PySem.sizeLine_eq, List.length_map]; omega) (fun D2 j e x Hi Hj acc Kt Kf hD2 ha sI eD2 y kt kf => ?_) (fun q ys H3 n3 s3 e3 hr3 => ?_)
    · obtain ⟨Tp, x1, y1, rfl, nT, rfl, ex, ey⟩ := y
      cases ex
      obtain ⟨a1, a2⟩ := sufs_at ha
      have sT : Same Hi (upd Hi Tp (.tup [.int (j : Nat), y1])) := same_new nT
      have eT : (upd Hi Tp (.tup [.int (j : Nat), y1])) Tp = some (.tup [.int (j : Nat), y1]) := upd_same
      generalize upd Hi Tp (.tup [.int (j : Nat), y1]) = Hj at sT eT kt kf
      have eL3 := sT _ _ (sI _ _ eL2)
      have ey2 : (line.map V.str)[j]? = some y1 := ey
      rw [List.getElem?_map, a1] at ey2
      cases ey2
      clear ey
      generalize hw : wipe [some (V.ref a), some (V.ref ra), some (V.ref d), some (V.ref L), v4, none, none, none, none, none, none, none] _ = σ0
      have hw2 : σ0 = [some (V.ref a), some (V.ref ra), some (V.ref d), some (V.ref L), v4, none, none, none, none, none, none, none] := hw.symm.trans rfl
      clear hw
      subst hw2
      refine r_gtupK eT rfl ?_
      walk_at "w_go"
      refine ⟨rfl, ?_⟩
      walk_at "w_go"
      rename_i q5 H5 n5 s5 e5
      rw [show (j : Int) + 1 = ((j + 1 : Nat) : Int) from by omega, cut_from, ← List.map_drop, a2] at e5
      refine r_inSN (.inl (.of e5)) ?_
      walk_at "w_go"
      by_cases hm : e.1 ∈ e.2
      · refine iteF' (by simp [hm]) ?_
        exact kf (by simp [hm]) H5 (sT.trans s5)
      · refine iteT' (by simp [hm]) ?_
        walk_at "w_go"
        exact kt (by simp [hm]) _ _ (sT.trans s5) rfl
    · have hys := all2_map hr3
      rw [sufs_last, ← eline] at hys
      subst hys
      have eline2 : (lineF (pre ++ [r]) r.name).length ≤ 6 := Nat.le_trans (line_len hok.bs r.name) (by rw [List.length_append]; simp only [List.length_cons, List.length_nil]; omega)
      walk_at "w_go"
      refine r_tupL (.of e3) (fun q4 n4 => ?_)
      have s4 := same_new (o := .tup ((lineF (pre ++ [r]) r.name).map V.str)) n4
      have e4 : (upd H3 q4 (.tup ((lineF (pre ++ [r]) r.name).map V.str))) q4 = _ := upd_same
      generalize upd H3 q4 (.tup ((lineF (pre ++ [r]) r.name).map V.str)) = H4 at s4 e4
      have b4 := b2.same (s3.trans s4)
      have ea4 := s4 _ _ (s3 _ _ ea2)
      have n4a : H q4 = none := b2.free ea2 (s3.free n4)
      have na4 : q4 ≠ a := fun z => by
        rw [z, ea] at n4a
        cases n4a
      clear s3 s4 n4 e3 n3 eL2 b2 ea2
      walk_at "w_go"
      rename_i F H6 n6 s6 e6 qL H7 n7 s7 e7
      have b6 : But a H H6 := (b4.self).same s6
      have ea6 : H6 a = some (.ins ad.Kind dx [("name", V.str r.name), ("bases", V.ref ba), ("is_abstract", V.bl r.abs), ("own", V.ref oa), ("line", V.ref q4)]) := s6 _ _ upd_same
      have e46 := s6 _ _ ((upd_ne na4).trans e4)
      have nF : H F = none := (b4.self).free upd_same n6
      have nqL : H qL = none := b6.free ea6 n7
      have b7 := b6.same s7
      have ea7 := s7 _ _ ea6
      have e47 := s7 _ _ e46
      have eF7 := s7 _ _ e6
      have nFL : qL ≠ F := fun z => by
        rw [z, e6] at n7
        cases n7
      have naF : a ≠ F := fun z => by
        rw [z, nF] at ea
        cases ea
      have n4F : q4 ≠ F := ne_of e47 eF7 (by intro z; cases z)
      clear b4 ea4 e4 n6 s6 e6 n7 s7 b6 ea6 e46 hr3
      have hsub : ∀ o, o ∈ lineF (pre ++ [r]) r.name → o ∈ names (pre ++ [r]) := fun o ho => line_sub hok.bs ho
      have ndp := okp.nd
      have kF : ∀ H', But a H H' → (∃ la fa fvs, H' a = some (.ins ad.Kind dx (kfs r.name (.ref ba) r.abs (.ref oa) la fa)) ∧ H' la = some (.tup ((lineF (pre ++ [r]) r.name).map V.str)) ∧ H' fa = some (.tup fvs) ∧ All2 (F4At H') (fieldsF (pre ++ [r]) r.name) fvs) → Q V.non H' := fun H' b h => by
        obtain ⟨la, fa, fvs, h1, h2, h3, h4⟩ := h
        exact kQ H' b ⟨a, dx, _, _, la, fa, fvs, rfl, h1, ⟨ba, rfl, ntx b _ _ eba⟩, ⟨oa, ovs, rfl, ntx b _ _ eoa, hown.mono fun _ _ z => z.tx (ntx b)⟩, h2, h3, h4⟩
      unfold fieldsF at kF
      have fl4 := fields_len hok (n := r.name) (by simp [names])
      unfold fieldsF at fl4
      generalize hline2 : lineF (pre ++ [r]) r.name = line2 at e47 e7 kF fl4 hsub eline2
      let f4 : Str → List Fld4 := fun o => (ownOf (pre ++ [r]) o).map fun f => (f.1, f.2.1, f.2.2, o)
      refine ⟨qL, _, rfl, .of e7, ?_⟩
      refine for_it (walk_rev (K := K) (a := qL) (xs := line2.map V.str)) (fun j σ H' => ∃ (v6 v8 v9 v10 v11 : Option V) (ys : List V), σ = [some (.ref a), some (.ref ra), some (.ref d), some (.ref L), v4, none, v6, some (.ref F), v8, v9, v10, v11] ∧ But a H H' ∧ H' a = some (.ins ad.Kind dx [("name", V.str r.name), ("bases", V.ref ba), ("is_abstract", V.bl r.abs), ("own", V.ref oa), ("line", V.ref q4)]) ∧ H' q4 = some (.tup (line2.map V.str)) ∧ H' qL = some (.lst (line2.map V.str)) ∧ H' F = some (.lst ys) ∧ All2 (F4At H') ((line2.reverse.take j).flatMap f4) ys) ⟨_, _, _, _, _, _, rfl, b7, ea7, e47, e7, eF7, .nil⟩ ?_ ?_ ?_
      · rintro j σ H' _ ⟨v6, v8, v9, v10, v11, ys, rfl, _, _, _, h, _⟩
        exact .of h
      · rintro j x σ H8 H9 hj ⟨v6, v8, v9, v10, v11, ys, rfl, b8, ea8, e48, eq8, eF8, hr8⟩ ⟨rfl, hx⟩
        obtain ⟨o, rfl, ho⟩ := str_ix hx
        rw [List.length_map] at ho hj
        have hrj : line2.reverse[j]? = some o := by
          rw [List.getElem?_reverse hj]
          exact ho
        have hom : o ∈ line2 := List.mem_of_getElem? ho
        have own4 : ∀ o, (ownOf (pre ++ [r]) o).length ≤ 4 := fun o => own_len hok o
        have hacc : ((line2.reverse.take j).flatMap f4).length ≤ 6 * 4 := Nat.le_trans (flat_le (k := 4) fun x hx => by
          show ((ownOf (pre ++ [r]) x).map _).length ≤ 4
          rw [List.length_map]
          exact own4 x) (Nat.mul_le_mul (by rw [List.length_take, List.length_reverse]; omega) (Nat.le_refl _))
        have kn8 := hkn.butI ea b8
        have hd8 := kn8.at_
        have hown : ∃ ow ovs, H9 ow = some (.tup ovs) ∧ All2 (FldAt H9) (ownOf (pre ++ [r]) o) ovs ∧ (o = r.name → ow = oa) ∧ (o ≠ r.name → ∃ ka kdx n0 bv ab la fa, valV kvs (.inr o) = some (.ref ka) ∧ H9 ka = some (.ins ad.Kind kdx (kfs n0 bv ab (.ref ow) la fa))) := by
          by_cases hor : o = r.name
          · subst hor
            refine ⟨oa, ovs, ntx b8 _ _ eoa, ?_, fun _ => rfl, fun z => absurd rfl z⟩
            rw [own_new okr.fresh]
            exact hown.mono fun _ _ z => z.tx (ntx b8)
          · have hop : o ∈ names pre := by
              have := hsub o hom
              unfold names at this
              rw [List.map_append, List.mem_append] at this
              rcases this with z | z
              · exact z
              · simp only [List.map_cons, List.map_nil, List.mem_cons, List.not_mem_nil, or_false] at z
                exact absurd z hor
            obtain ⟨r0, v0, hr0, rfl, hv0, ka, kdx, kbv, kov, kla, kfa, kfvs, rfl, kin⟩ := known_some kn8 hop
            obtain ⟨ow, ovs, rfl, h1, h2⟩ := kin.own
            refine ⟨ow, ovs, h1, ?_, fun z => absurd z hor, fun _ => ⟨ka, kdx, _, _, _, _, _, hv0, kin.at_⟩⟩
            rw [own_keeps hop, own_of ndp hr0]
            exact h2
        obtain ⟨ow, ovs, eow, how, ow1, ow2⟩ := hown
        walk_at "w_go"
        refine r_ifV (V.ref ow) (fun hc R h => ?_) (fun hc R h => ?_) ?_
        · cases ow1 (of_decide_eq_true hc)
          walk_at "w_go"
          exact h
        · obtain ⟨ka, kdx, n0, bv, ab, la, fa, g1, g2⟩ := ow2 (of_decide_eq_false hc)
          walk_at "w_go"
          refine r_dgetK hd8 g1 ?_
          refine r_fldK g2 cl f4' rfl ?_
          exact h
        have holen := own4 o
        have eacc := take_flat (f := f4) hrj
        generalize ((line2.reverse.take j).flatMap f4) = acc at hr8 hacc eacc
        have hyl := hr8.len
        walk_at "w_go"
        refine r_itK (.of eow) ?_
        refine for_tup (K := K) (a := ow) (xs := ovs) (fun t σ H5 => ∃ (v9 v10 v11 : Option V) (ys : List V), σ = [some (.ref a), some (.ref ra), some (.ref d), some (.ref L), v4, none, some (.str o), some (.ref F), some (.ref ow), v9, v10, v11] ∧ But a H H5 ∧ Tx H9 H5 ∧ H5 a = some (.ins ad.Kind dx [("name", V.str r.name), ("bases", V.ref ba), ("is_abstract", V.bl r.abs), ("own", V.ref oa), ("line", V.ref q4)]) ∧ H5 qL = some (.lst (line2.map V.str)) ∧ H5 F = some (.lst ys) ∧ All2 (F4At H5) (acc ++ ((ownOf (pre ++ [r]) o).take t).map fun f => (f.1, f.2.1, f.2.2, o)) ys) ⟨_, _, _, _, rfl, b8, Tx.refl _, ea8, eq8, eF8, by simpa using hr8⟩ ?_ ?_ ?_
        · rintro t σ H5 _ ⟨v9, v10, v11, ys, rfl, _, ht5, _⟩
          exact .of (ht5 _ _ eow)
        · rintro t x σ H5 ht ⟨v9, v10, v11, ys, rfl, b5, ht5, ea5, eq5, hF5, hr5⟩
          obtain ⟨f, hft, hfx⟩ := how.right ht
          obtain ⟨fa, rfl, hfa⟩ := hfx.tx ht5
          have hyl := hr5.len
          have htl := (List.getElem?_eq_some_iff.mp hft).1
          rw [List.length_append, List.length_map, List.length_take] at hyl
          walk_at "w_go"
          rename_i q6 H6 n6 s6 e6
          have hF6 := s6 _ _ hF5
          have tx7 : Tx H5 (upd H6 F (.lst (ys ++ [V.ref q6]))) := (tx_same s6).trans (tx_lst hF6)
          refine ⟨_, _, _, ys ++ [V.ref q6], rfl, (b5.same s6).put nF, ht5.trans tx7, by rw [upd_ne naF]; exact s6 _ _ ea5, by rw [upd_ne nFL]; exact s6 _ _ eq5, upd_same, ?_⟩
          rw [take_more hft, List.map_append, ← List.append_assoc]
          refine All2.snoc (R := F4At (upd H6 F (.lst (ys ++ [V.ref q6])))) ⟨q6, rfl, ?_⟩ (all2_f4 hr5 tx7)
          exact tx_lst hF6 _ _ e6
        · rintro σ H5 ⟨v9, v10, v11, ys, rfl, b5, ht5, ea5, eq5, hF5, hr5⟩
          rw [← how.len, List.take_length] at hr5
          refine ⟨_, _, _, _, _, ys, rfl, b5, ea5, ht5 _ _ e48, eq5, hF5, ?_⟩
          rw [eacc]
          exact hr5
      · rintro σ H8 ⟨v6, v8, v9, v10, v11, ys, rfl, b8, ea8, e48, eq8, eF8, hr8⟩
        rw [List.length_map, ← List.length_reverse (as := line2), List.take_length] at hr8
        have hyl := hr8.len
        walk_at "w_go"
        refine r_tupL (.of eF8) (fun q9 n9 => ?_)
        have s9 := same_new (o := .tup ys) n9
        have e9 : (upd H8 q9 (.tup ys)) q9 = _ := upd_same
        generalize upd H8 q9 (.tup ys) = H9 at s9 e9
        have b9 := b8.same s9
        have ea9 := s9 _ _ ea8
        have na9 : q9 ≠ a := fun z => by
          rw [z, ea8] at n9
          cases n9
        have tx9 : Tx H8 _ := (tx_same s9).trans (tx_put (q := a) (o := .ins ad.Kind dx (kfs r.name (.ref ba) r.abs (.ref oa) q4 q9)) fun xs z => by
          rw [ea9] at z
          cases z)
        walk_at "w_go"
        exact kF _ b9.self ⟨q4, q9, ys, upd_same, tx9 _ _ e48, by rw [upd_ne na9]; exact e9, all2_f4 hr8 tx9⟩
end
end Wm
namespace Wm
open PySem L2

section
variable {P : Program} {w : World} {K : PySem.W.Frag} {mg : Str → Option Value} {base : Heap} {ad : Ad}
theorem ok_make_kind (T : Txt P K mg ad) : FnOk P w K mg base (L2.CX P w) 5 ad.make_kind ad.fd_make_kind ["row", "known", "targets"] (spMkK ad.Kind) := by
  refine T.F_make_kind.okX sc_make_kind (fun vs H Q E h => ?_) (fun cdv A outer s H vs Q E hr h => ?_)
  · obtain ⟨r, pre, all, v, d, Ta, kvs, rfl, _⟩ := h
    rfl
  obtain ⟨r, pre, all, v, d, Ta, kvs, rfl, hra, hkn, eT, hok, hpl, hal, hka, kQ⟩ := h
  have hra0 := hra
  obtain ⟨ra, bv, ov, rfl, era, ⟨ba, rfl, eba⟩, ⟨oa, ovs, rfl, eoa, hown⟩⟩ := hra
  refine ⟨_, (pss_cons (ps_if (PW.pt (pw_or (pt_not (pt_val (pe_callB call_isi (by rfl) T.n_isinstance (by decide +kernel) (pa_cons (pv 0) (pa_cons (pe_bltn (v := .ty "tuple") (by rfl) T.n_tuple (by decide +kernel) rfl) pa_nil))))) (pw_or1 (pt_cmpR op_ne (pe_callB c_len (by rfl) T.n_len PySem.boot_len (pa_cons (pv 0) pa_nil)) pe_int (nomark _))))) (pss_one (ps_ret pe_non)) pss_nil)
    (pss_cons (ps_asg (pv 0) (pg_tup rfl (pgs_cons (pg_name (i := 3) sc_make_kind.nd rfl (Or.inl rfl)) (pgs_cons (pg_name (i := 4) sc_make_kind.nd rfl (Or.inl rfl)) (pgs_cons (pg_name (i := 5) sc_make_kind.nd rfl (Or.inl rfl)) (pgs_cons (pg_name (i := 6) sc_make_kind.nd rfl (Or.inl rfl)) pgs_nil))))))
    (pss_cons (ps_if (PW.pt (pw_or (pt_not (pt_val (pe_call (ok_is_kind_name T) (hr.mono (by decide)) rfl T.g_is_kind_name T.F_is_kind_name.kp T.b_is_kind_name .nil passL (pa_cons (pv 3) pa_nil)))) (pw_or (pt_cmp (pc_din (hu_of hr) (pv 3) (pv 1))) (pw_or1 (pt_not (pt_val (pe_call (ok_is_bases T) hr rfl T.g_is_bases T.F_is_bases.kp T.b_is_bases .nil passL (pa_cons (pv 4) (pa_cons (pv 1) pa_nil))))))))) (pss_one (ps_ret pe_non)) pss_nil)
    (pss_cons (ps_if (PW.pt (pw_or (pt_not (pt_val (pe_callB call_isi (by rfl) T.n_isinstance (by decide +kernel) (pa_cons (pv 5) (pa_cons (pe_bltn (v := .ty "bool") (by rfl) T.n_bool (by decide +kernel) rfl) pa_nil))))) (pw_or1 (pt_not (pt_val (pe_callB call_isi (by rfl) T.n_isinstance (by decide +kernel) (pa_cons (pv 6) (pa_cons (pe_bltn (v := .ty "tuple") (by rfl) T.n_tuple (by decide +kernel) rfl) pa_nil)))))))) (pss_one (ps_ret pe_non)) pss_nil)
    (pss_cons (ps_if (pt_not (pt_val (pe_callB (cr_all rfl) (by rfl) T.n_all (by decide +kernel) (pa_cons (pe_lc (own := [("field", 7)]) (g := gName 7) (tt := tYes) rfl sc_make_kind.nd (pi_tup (pv 6)) (blkOk_by (own := [("field", 7)]) (N := ["row", "known", "targets", "name", "bases", "is_abstract", "own", "field", "kind", "names"]) (sc := defScope s_make_kind) (by decide +kernel)) (fun _ _ _ _ _ => pg_name (i := 7) sc_make_kind.nd rfl (Or.inl rfl)) (fun _ _ _ _ _ => pts_nil) (fun _ _ _ _ _ => (pe_call (ok_is_field T) hr rfl T.g_is_field T.F_is_field.kp T.b_is_field .nil passL (pa_cons (pv 7) (pa_cons (pv 2) pa_nil))))) pa_nil)))) (pss_one (ps_ret pe_non)) pss_nil)
    (pss_cons (ps_set (i := 8) sc_make_kind.nd rfl (Or.inl rfl) (pe_make T.mk_Kind (ok_Kind_init T) (hr.mono (by decide)) rfl T.g_Kind T.b_Kind_init .nil passL (pa_cons (pv 0) (pa_cons (pv 1) pa_nil))))
    (pss_cons (ps_setLc (i := 9) (own := [("field", 7)]) (g := gName 7) (tt := tYes) rfl sc_make_kind.nd rfl rfl (sw_true rfl rfl rfl (by decide +kernel)) (pi_tup (pe_fld (pv 8) rfl)) (blkOk_by (own := [("field", 7)]) (N := ["row", "known", "targets", "name", "bases", "is_abstract", "own", "field", "kind", "names"]) (sc := defScope s_make_kind) (by decide +kernel)) (fun _ _ _ _ _ => pg_name (i := 7) sc_make_kind.nd rfl (Or.inl rfl)) (fun _ _ _ _ _ => pts_nil) (fun _ _ _ _ _ => (pe_ix (ix_tup : IxR _ (rIxT K)) (pv 7) pe_int (fun _ _ => rfl))))
    (pss_cons (ps_if (PW.pt (pw_or (pt_cmpR op_gt (pe_callB c_len (by rfl) T.n_len PySem.boot_len (pa_cons (pv 9) pa_nil)) (ClX.pe_cval (pe_glob (v := .ref ad.Schema) rfl T.g_Schema rfl)) (nomark _)) (pw_or1 (pt_cmpR op_ne (pe_lenSetS (by rfl) T.n_len (by rfl) T.n_set (pv 9)) (pe_callB c_len (by rfl) T.n_len PySem.boot_len (pa_cons (pv 9) pa_nil)) (nomark _))))) (pss_one (ps_ret pe_non)) pss_nil)
    (pss_one (ps_ret (pv 8))))))))))), ?_⟩
  rw [show L2.start ["row", "known", "targets", "name", "bases", "is_abstract", "own", "field", "kind", "names"] [V.ref ra, V.ref d, V.ref Ta] = [some (V.ref ra), some (V.ref d), some (V.ref Ta), none, none, none, none, none, none, none] from rfl]
  have okr := hok.last
  have okp := hok.init
  have lnm := kindName_len okr.nm
  have cl := T.ow_Kind.cl
  have f6 := T.no_Kind_fields
  obtain ⟨mc, uF, cr, cv⟩ := T.cr_Schema_FIELDS
  walk_at "w_go"
  refine r_isi (.base (.tup era)) rfl ?_
  walk_at "w_go"
  refine iteF' (by rw [Bool.not_eq_false']; exact decide_eq_true rfl) ?_
  walk_at "w_go"
  refine ⟨.str r.name, true, rfl, .inl ⟨_, rfl, by rw [PySem.sizeLine_eq]; omega, okr.nm.symm⟩, fun H1 s1 => ?_⟩
  have ed1 := s1 _ _ hkn.at_
  walk_at "w_go"
  refine ⟨d, _, rfl, DGet.k (k := .inr r.name) ed1, ?_⟩
  rw [known_none hkn okr.fresh, Option.isSome_none]
  walk_at "w_go"
  refine ⟨r.bases, _, d, kvs, rfl, ⟨ba, rfl, s1 _ _ eba⟩, ed1, okr.blen, okr.bnd, fun x hx => ⟨okp.kn (okr.bsub x hx), by
    obtain ⟨_, v, _, _, e, _⟩ := known_some hkn (okr.bsub x hx)
    rw [e]
    rfl⟩, fun H2 s2 => ?_⟩
  have s12 := s1.trans s2
  clear s1 s2 ed1
  have ea2 := s12 _ _ eoa
  walk_at "w_go"
  refine r_isi (.base (.bl _)) rfl ?_
  walk_at "w_go"
  refine r_isi (.base (.tup ea2)) rfl ?_
  walk_at "w_go"
  refine r_itK (.of ea2) ?_
  have how2 := hown.mono fun _ _ z => z.tx (tx_same s12)
  have eT2 := s12 _ _ eT
  have hol : r.own.length ≤ 4 := by
    have := own_len hok r.name
    rwa [own_new okr.fresh] at this
  refine r_lcW walk_tup r.own how2.len (fun _ => true) (fun a y _ => y = V.bl true) (fun _ _ _ _ h _ => h) (fun _ s => .of (s _ _ ea2)) (by rw [PySem.sizeLine_eq, ← how2.len]; omega) (fun D j f y Hi Hj acc Kt Kf hD ha sI eD yy kt kf => ?_) (fun q ys H3 n3 s3 e3 hr3 => ?_)
  · obtain ⟨rfl, hx⟩ := yy
    obtain ⟨y', hy', hf⟩ := how2.left ha
    rw [hx] at hy'
    cases hy'
    have fo := okr.own f (List.mem_of_getElem? ha)
    refine ⟨wipe_set1, ?_⟩
    walk_at "w_go"
    refine ⟨f, _, Ta, all, rfl, hf.tx (tx_same sI), sI _ _ eT2, hal, fo, hka _ fo.2.2, fun H5 s5 => ?_⟩
    exact kt rfl _ _ s5 rfl
  · have hys := all2_map hr3
    rw [List.filter_eq_self.mpr (fun _ _ => rfl)] at hys
    walk_at "w_go"
    refine r_allK (bs := r.own.map fun _ => true) (.of (by rw [e3, hys, List.map_map]; rfl)) ?_
    refine ⟨_, rfl, ?_⟩
    refine iteF' (by simp) ?_
    have s3' := s12.trans s3
    clear s3 s12 ea2 hys hr3 e3 n3
    walk_at "w_go"
    rename_i x dx H4 n4 s4 e4
    have nx : H x = none := s3'.free n4
    refine ⟨x, dx, r, pre, all, _, d, kvs, rfl, e4, hra0.tx (tx_same (s3'.trans s4)), hkn.same (s3'.trans s4), hok, hpl, fun H5 b5 k5 => ?_⟩
    have s5 : Same H H5 := same_but nx (s3'.trans s4) b5
    have kQ5 := fun (H' : Hp) (s : Same H5 H') => kQ x H' nx (s5.trans s) (k5.same s)
    obtain ⟨_, kdx, bv', ov', la, fa, fvs, e, kin⟩ := k5
    cases e
    have ex5 := kin.at_
    have ef5 := kin.flds
    have hf5 := kin.f4
    have hfl := okr.flen
    have hfn := okr.fnd
    generalize fieldsF (pre ++ [r]) r.name = fl at hf5 hfl hfn
    have hfvl := hf5.len
    clear n4 s4 e4 s3' b5 kin
    walk_at "w_go"
    refine r_itK (.of ef5) ?_
    refine r_lcW walk_tup fl hfvl (fun _ => true) (fun a y _ => y = V.str a.1) (fun _ _ _ _ h _ => h) (fun _ s => .of (s _ _ ef5)) (by rw [PySem.sizeLine_eq]; omega) (fun D j f y Hi Hj acc Kt Kf hD ha sI eD yy kt kf => ?_) (fun q ys H3 n3 s3 e3 hr3 => ?_)
    · obtain ⟨rfl, hx⟩ := yy
      obtain ⟨y', hy', hf⟩ := hf5.left ha
      rw [hx] at hy'
      cases hy'
      obtain ⟨fa', rfl, ef⟩ := hf.tx (tx_same sI)
      refine ⟨wipe_set1, ?_⟩
      walk_at "w_go"
      exact kt rfl _ _ (Same.refl _) rfl
    · have hys := all2_map hr3
      rw [List.filter_eq_self.mpr (fun _ _ => rfl)] at hys
      have hys2 : ys = (fl.map (·.1)).map V.str := by rw [hys, List.map_map]; rfl
      subst hys2
      have hnl : (fl.map (·.1)).length ≤ 4 := by rw [List.length_map]; exact hfl
      walk_at "w_go"
      refine iteF' (decide_eq_false (by rw [List.length_map]; omega)) ?_
      walk_at "w_go"
      refine ⟨q, _, rfl, .inl (.of e3), by omega, ?_⟩
      rw [nub_nodup hfn]
      walk_at "w_go"
      refine iteF' (by simp) ?_
      walk_at "w_go"
      exact kQ5 _ s3
end
end Wm
namespace Wm
open PySem L2

section
variable {P : Program} {w : World} {K : PySem.W.Frag} {mg : Str → Option Value} {base : Heap} {ad : Ad}
theorem ok_Schema_init (T : Txt P K mg ad) : FnOk P w K mg base (L2.CX P w) 6 ad.Schema_init ad.fd_Schema_init ["self", "rows"] (spSInit ad.Kind ad.Schema) := by
  refine T.F_Schema_init.okX sc_Schema_init (fun vs H Q E h => ?_) (fun cdv A outer s H vs Q E hr h => ?_)
  · obtain ⟨a, dx, L, rows, rfl, _⟩ := h
    rfl
  obtain ⟨a, dx, L, rows, rfl, ea, ⟨rvs, eL, hrows⟩, hsch, kQ⟩ := h
  obtain ⟨mc, uM, cr, cv⟩ := T.cr_Schema_MOST
  refine ⟨_, (pss_cons (ps_if (PW.pt (pw_or (pt_not (pt_val (pe_callB call_isiT (by rfl) T.n_isinstance (by decide +kernel) (pa_cons (pv 1) (pa_cons (pe_tup (pa_cons (pe_bltn (v := .ty "list") (by rfl) T.n_list (by decide +kernel) rfl) (pa_cons (pe_bltn (v := .ty "tuple") (by rfl) T.n_tuple (by decide +kernel) rfl) pa_nil))) pa_nil))))) (pw_or1 (pt_not (pt_chain op_le op_le pe_int (pe_callB c_len (by rfl) T.n_len PySem.boot_len (pa_cons (pv 1) pa_nil)) (ClX.pe_cval (pe_glob (v := .ref ad.Schema) rfl T.g_Schema rfl))))))) (pss_one (ps_raiseEr rfl T.er_BadSchema hr (takes_of rfl rfl rfl rfl) T.g_BadSchema (pa_cons (pe_un un_neg pe_int) pa_nil))) pss_nil)
    (pss_cons (ps_setLc (i := 2) (own := [("row", 3)]) (g := gName 3) rfl sc_Schema_init.nd rfl rfl (sw_true rfl rfl rfl (by decide +kernel)) (pi_list (pv 1)) (blkOk_by (own := [("row", 3)]) (N := ["self", "rows", "targets", "row", "known", "at", "kind", "name"]) (sc := defScope s_Schema_init) (by decide +kernel)) (fun _ _ _ _ _ => pg_name (i := 3) sc_Schema_init.nd rfl (Or.inl rfl)) (fun _ _ _ _ _ => (pts_one (PW.pt (pw_and (pt_val (pe_callB (call_isi : CallR _ (.builtin "isinstance") (rIsi K)) (by rfl) T.n_isinstance (by decide +kernel) (pa_cons (pv 3) (pa_cons (pe_bltn (v := .ty "tuple") (by rfl) T.n_tuple (by decide +kernel) rfl) pa_nil)))) (pw_and (pt_cmpR op_eq (pe_callB (c_len : CallR _ (.builtin "len") (rLen K)) (by rfl) T.n_len PySem.boot_len (pa_cons (pv 3) pa_nil)) pe_int (nomark _)) (pw_and1 (pt_val (pe_call (ok_is_kind_name T) (hr.mono (by decide)) rfl T.g_is_kind_name T.F_is_kind_name.kp T.b_is_kind_name .nil passL (pa_cons (pe_ix (ix_tup : IxR _ (rIxT K)) (pv 3) pe_int (fun _ _ => rfl)) pa_nil))))))))) (fun _ _ _ _ _ => (pe_ix (ix_tup : IxR _ (rIxT K)) (pv 3) pe_int (fun _ _ => rfl))))
    (pss_cons (ps_set (i := 4) sc_Schema_init.nd rfl (Or.inr rfl) pe_dnewK)
    (pss_cons (ps_for (passes_of rfl) rfl (pi_enum (by rfl) T.n_enumerate (pa_cons (pv 1) pa_nil)) (pg_tup rfl (pgs_cons (pg_name (i := 5) sc_Schema_init.nd rfl (Or.inl rfl)) (pgs_cons (pg_name (i := 3) sc_Schema_init.nd rfl (Or.inl rfl)) pgs_nil))) (pss_cons (ps_set (i := 6) sc_Schema_init.nd rfl (Or.inl rfl) (pe_call (ok_make_kind T) hr rfl T.g_make_kind T.F_make_kind.kp T.b_make_kind .nil passL (pa_cons (pv 3) (pa_cons (pv 4) (pa_cons (pv 2) pa_nil)))))
    (pss_cons (ps_if (pt_cmpR op_isNn (pv 6) pe_non (nomark _)) (pss_one (ps_raiseEr rfl T.er_BadSchema hr (takes_of rfl rfl rfl rfl) T.g_BadSchema (pa_cons (pv 5) pa_nil))) pss_nil)
    (pss_one (ps_dput (hu_of hr) (pv 4) (pe_fld (pv 6) rfl) (pv 6) rfl)))))
    (pss_cons (ps_if (pt_val (pe_lock (pe_callB (cr_all rfl) (by rfl) T.n_all (by decide +kernel) (pa_cons (pe_lc (own := [("name", 7)]) (g := gName 7) (tt := tYes) rfl sc_Schema_init.nd (pi_keys (pv 4)) (blkOk_by (own := [("name", 7)]) (N := ["self", "rows", "targets", "row", "known", "at", "kind", "name"]) (sc := defScope s_Schema_init) (by decide +kernel)) (fun _ _ _ _ _ => pg_name (i := 7) sc_Schema_init.nd rfl (Or.inl rfl)) (fun _ _ _ _ _ => pts_nil) (fun _ _ _ _ _ => (pe_fld (pe_dget (hu_of hr) (pv 4) (pv 7) (fun _ _ => rfl)) rfl : PE _ _ (tFld K _ _)))) pa_nil)))) (pss_one (ps_raiseEr rfl T.er_BadSchema hr (takes_of rfl rfl rfl rfl) T.g_BadSchema (pa_cons (pe_callB c_len (by rfl) T.n_len PySem.boot_len (pa_cons (pv 1) pa_nil)) pa_nil))) pss_nil)
    (pss_cons (ps_fld (pv 0) (pe_callTy c_tuple (by rfl) T.n_tuple (by decide +kernel) (pa_cons (pv 1) pa_nil)) rfl)
    (pss_cons (ps_fld (pv 0) (pe_callTy (c_tupD rfl) (by rfl) T.n_tuple (by decide +kernel) (pa_cons (pv 4) pa_nil)) rfl)
    (pss_one (ps_fld (pv 0) (pv 4) rfl))))))))), ?_⟩
  rw [show L2.start ["self", "rows", "targets", "row", "known", "at", "kind", "name"] [V.ref a, V.ref L] = [some (V.ref a), some (V.ref L), none, none, none, none, none, none] from rfl]
  have cl := T.ow_Schema.cl
  have clK := T.ow_Kind.cl
  have f1 := T.no_Schema_rows
  have f2 := T.no_Schema_names
  have f3 := T.no_Schema_known
  have f4 := T.no_Kind_is_abstract
  have f5 := T.no_Kind_name
  have hok := hsch.ok
  have hpos := hsch.pos
  have hfew := hsch.few
  have hlen := hrows.len
  walk_at "w_go"
  rename_i q1 H1 n1 s1 e1
  have eL1 := s1 _ _ eL
  refine r_isiTT (x := V.non) e1 eL1 ?_
  walk_at "w_go"
  refine iteT' (decide_eq_true (by omega)) ?_
  walk_at "w_go"
  refine iteF' (by rw [Bool.not_eq_false']; exact decide_eq_true (by omega)) ?_
  walk_at "w_go"
  refine r_ilK (.of eL1) ?_
  refine r_lcW walk_list rows hlen (fun _ => true) (fun r y _ => y = V.str r.name) (fun _ _ _ _ h _ => h) (fun _ s => .of (s _ _ eL1)) (by rw [PySem.sizeLine_eq]; omega) (fun D j r y Hi Hj acc Kt Kf hD ha sI eD yy kt kf => ?_) (fun q2 ys H2 n2 s2 e2 hr2 => ?_)
  · obtain ⟨rfl, hx⟩ := yy
    obtain ⟨y', hy', hf⟩ := hrows.left ha
    rw [hx] at hy'
    cases hy'
    obtain ⟨ra, bv, ov, rfl, era, hbs, how⟩ := hf.tx (tx_same (s1.trans sI))
    have knm := hok.kn (n := r.name) (List.mem_map_of_mem (List.mem_of_getElem? ha))
    have lnm := kindName_len knm
    refine ⟨wipe_set1, ?_⟩
    walk_at "w_go"
    refine r_isi (.base (.tup era)) rfl ?_
    walk_at "w_go"
    refine iteT' (decide_eq_true rfl) ?_
    walk_at "w_go"
    refine ⟨.str r.name, true, rfl, .inl ⟨_, rfl, by rw [PySem.sizeLine_eq]; omega, knm.symm⟩, fun H3 s3 => ?_⟩
    walk_at "w_go"
    exact kt rfl _ _ s3 rfl
  · have hys := all2_map hr2
    rw [List.filter_eq_self.mpr (fun _ _ => rfl)] at hys
    have hys2 : ys = (names rows).map V.str := by
      rw [hys]
      unfold names
      rw [List.map_map]
      rfl
    subst hys2
    have s12 := s1.trans s2
    clear hr2 hys s1 n1 e1 eL1 n2 s2
    walk_at "w_go"
    rename_i D H3 n3 s3 e3
    have nD : H D = none := s12.free n3
    have s13 := s12.trans s3
    have eq3 := s3 _ _ e2
    clear s12 n3 s3 e2
    have nmD : q2 ≠ D := ne_of eq3 e3 (by intro z; cases z)
    refine ⟨L, rvs, rfl, .of (s13 _ _ eL), ?_⟩
    refine for_it (walk_enum (K := K) (a := L) (xs := rvs)) (fun i σ H' => ∃ (v3 v5 v6 : Option V) (kvs : List (Key × V)), σ = [some (.ref a), some (.ref L), some (.ref q2), v3, some (.ref D), v5, v6, none] ∧ Same H H' ∧ H' q2 = some (.lst ((names rows).map V.str)) ∧ KnownAt ad.Kind H' (rows.take i) D kvs) ⟨_, _, _, _, rfl, s13, eq3, e3, rfl, fun r hr => by simp at hr⟩ ?_ ?_ ?_
    · rintro i σ H' _ ⟨v3, v5, v6, kvs, rfl, s4, _⟩
      exact .of (s4 _ _ eL)
    · rintro i x σ H4 H5 hi ⟨v3, v5, v6, kvs, rfl, s4, eq4, hkn⟩ ⟨Tp, x1, y1, rfl, nT, rfl, ex, ey⟩
      cases ex
      have ey2 : rvs[i]? = some y1 := ey
      clear ey
      obtain ⟨r, hri, hra⟩ := hrows.right ey2
      have sT : Same H4 (upd H4 Tp (.tup [.int (i : Nat), y1])) := same_new nT
      have eT : (upd H4 Tp (.tup [.int (i : Nat), y1])) Tp = some (.tup [.int (i : Nat), y1]) := upd_same
      generalize upd H4 Tp (.tup [.int (i : Nat), y1]) = Hj at sT eT
      have s5 := s4.trans sT
      have hkn5 := hkn.same sT
      have eq5 := sT _ _ eq4
      have ok1 : RowsOk (names rows) (rows.take i ++ [r]) := by
        have := hok.take (i + 1)
        rwa [take_more hri] at this
      have hnl : (names rows).length ≤ 6 := by unfold names; rw [List.length_map]; exact hfew
      refine r_gtupK eT rfl ?_
      walk_at "w_go"
      refine ⟨r, rows.take i, names rows, _, D, q2, kvs, rfl, hra.tx (tx_same s5), hkn5, eq5, ok1, by rw [List.length_take]; omega, hnl, fun x hx => hok.kn hx, fun ka H6 nk s6 k6 => ?_⟩
      have hkn6 := hkn5.same s6
      have hkd := hkn6.at_
      have hne := known_none hkn6 ok1.last.fresh
      have kadd := hkn6.add ok1 k6
      have s56 := s5.trans s6
      have eq6 := s6 _ _ eq5
      have hkl : kvs.length ≤ 6 := by
        have := congrArg List.length hkn6.keys
        unfold names at this
        simp only [List.length_map, List.length_take] at this
        omega
      obtain ⟨_, kdx, bv', ov', la, fa, fvs, e, kin⟩ := k6
      cases e
      have ek6 := kin.at_
      walk_at "w_go"
      refine iteF' (decide_eq_false (by intro z; cases z)) ?_
      walk_at "w_go"
      refine r_dputK hkd (putK_new _ hne) (by rw [PySem.sizeLine_eq]; omega) ?_
      refine ⟨_, _, _, kvs ++ [(.inr r.name, .ref ka)], rfl, same_put s56 nD, (upd_ne nmD).trans eq6, ?_⟩
      rw [take_more hri]
      exact kadd
    · rintro σ H4 ⟨v3, v5, v6, kvs, rfl, s4, eq4, hkn⟩
      rw [← hlen, List.take_length] at hkn
      have hkl : kvs.length = rows.length := by
        have := congrArg List.length hkn.keys
        unfold names at this
        simpa only [List.length_map] using this
      have hkv := keys_v hkn
      walk_at "w_go"
      refine r_lockE hkn.at_ (fun od => ?_)
      have efz : (upd H4 D (.frz od (.dK kvs))) D = some (.frz od (.dK kvs)) := upd_same
      walk_at "w_go"
      refine ⟨D, od, rfl, .inl ⟨kvs, efz, ?_⟩⟩
      refine r_lcW walk_keys rows hkl.symm (fun _ => true) (fun r y _ => y = V.bl r.abs) (fun _ _ _ _ h _ => h) (fun _ s => s _ _ efz) (by rw [PySem.sizeLine_eq]; omega) (fun D2 j r y Hi Hj acc Kt Kf hD ha sI eD yy kt kf => ?_) (fun q5 ys H5 n5 s5 e5 hr5 => ?_)
      · obtain ⟨rfl, k, v, hk, rfl⟩ := yy
        cases key_at hkn hk ha
        obtain ⟨v2, hv2, a2, kdx, bv', ov', la, fa, fvs, rfl, kin⟩ := hkn.knd r (List.mem_of_getElem? ha)
        have na2 : a2 ≠ D := ne_of kin.at_ hkn.at_ (by intro z; cases z)
        have ek := sI _ _ ((upd_ne na2).trans kin.at_)
        have ef := sI _ _ efz
        show gName 7 (V.str r.name) _ _ _
        refine ⟨wipe_set1, ?_⟩
        walk_at "w_go"
        refine r_dgetF ef hv2 ?_
        refine r_fldK ek clK f4 rfl ?_
        exact kt rfl _ _ (Same.refl _) rfl
      · have hys := all2_map hr5
        rw [List.filter_eq_self.mpr (fun _ _ => rfl)] at hys
        walk_at "w_go"
        refine r_allK (bs := rows.map (·.abs)) (.of (by rw [e5, hys, List.map_map]; rfl)) ?_
        rw [all_abs hsch.conc]
        refine ⟨s5 _ _ efz, false, rfl, ?_⟩
        have s45 : Same H4 (upd H5 D (.dK kvs)) := same_lock hkn.at_ s5
        generalize upd H5 D (.dK kvs) = H6 at s45
        have s6 := s4.trans s45
        have hkn6 := hkn.same s45
        have hkd6 := hkn6.at_
        clear s45 hkn s4 eq4 hys hr5 e5 s5 n5 efz
        walk_at "w_go"
        refine r_tupL (.of (s6 _ _ eL)) (fun q7 n7 => ?_)
        have s7 := same_new (o := .tup rvs) n7
        have e7 : (upd H6 q7 (.tup rvs)) q7 = _ := upd_same
        generalize upd H6 q7 (.tup rvs) = H7 at s7 e7
        have s67 := s6.trans s7
        have ea7 := s67 _ _ ea
        have n7H := s6.free n7
        have hkn7 := hkn6.same s7
        have naD : a ≠ D := fun z => by
          rw [z, nD] at ea
          cases ea
        have n7a : q7 ≠ a := fun z => by
          rw [z, ea] at n7H
          cases n7H
        have b7 : But a H (upd H7 a (.ins ad.Schema dx (putF "rows" (V.ref q7) []))) := ((But.refl a H).same s67).self
        have t7 : Tx H7 (upd H7 a (.ins ad.Schema dx (putF "rows" (V.ref q7) []))) := tx_put (q := a) fun xs z => by
          rw [ea7] at z
          cases z
        have hkn8 := hkn7.butI ea7 ((But.refl a H7).self (o := .ins ad.Schema dx (putF "rows" (V.ref q7) [])))
        have ea8 : (upd H7 a (.ins ad.Schema dx (putF "rows" (V.ref q7) []))) a = some (.ins ad.Schema dx [("rows", V.ref q7)]) := upd_same
        have e78 := t7 _ _ e7
        walk_at "w_go"
        generalize upd H7 a (.ins ad.Schema dx (putF "rows" (V.ref q7) [])) = H8 at b7 hkn8 ea8 e78 ⊢
        refine r_tupD hkn8.at_ (fun q9 H9 n9 s9 e9 => ?_)
        rw [keys_v hkn8] at e9
        have n9H : H q9 = none := b7.free ea8 n9
        have n9a : q9 ≠ a := fun z => by
          rw [z, ea] at n9H
          cases n9H
        have b9 := b7.same s9
        have ea9 := s9 _ _ ea8
        have e79 := s9 _ _ e78
        have hkn9 := hkn8.same s9
        walk_at "w_go"
        have bF : But a H9 (upd (upd H9 a (.ins ad.Schema dx (putF "names" (V.ref q9) [("rows", V.ref q7)]))) a (.ins ad.Schema dx (putF "known" (V.ref D) (putF "names" (V.ref q9) [("rows", V.ref q7)])))) := ((But.refl a H9).self).self
        have hknF := hkn9.butF (by simp) ea9 bF
        have tF := bF.tx ea9
        have eaF : (upd (upd H9 a (.ins ad.Schema dx (putF "names" (V.ref q9) [("rows", V.ref q7)]))) a (.ins ad.Schema dx (putF "known" (V.ref D) (putF "names" (V.ref q9) [("rows", V.ref q7)])))) a = some (.ins ad.Schema dx (sfs q7 q9 D)) := upd_same
        refine kQ _ (b9.self.self) ⟨dx, q7, q9, D, rvs, kvs, eaF, tF _ _ e79, ?_, tF _ _ e9, hknF⟩ ?_
        · exact hrows.mono fun _ _ z => z.tx ((b9.self.self).tx ea)
        · intro dx' rv nv dv rvs' kvs' hin
          have q := hin.at_
          rw [eaF] at q
          have q2 := (HO.ins.inj (Option.some.inj q)).2.2
          unfold sfs at q2
          cases q2
          exact nD
end
end Wm
namespace Wm
open PySem L2

section
variable {P : Program} {w : World} {K : PySem.W.Frag} {mg : Str → Option Value} {base : Heap} {ad : Ad}
theorem ok_Schema_getitem (T : Txt P K mg ad) : FnOk P w K mg base (L2.CX P w) 4 ad.Schema_getitem ad.fd_Schema_getitem ["self", "name"] (spGet ad.Kind ad.Schema ad.NoKind) := by
  refine T.F_Schema_getitem.okX sc_Schema_getitem (fun vs H Q E h => ?_) (fun cdv A outer s H vs Q E hr h => ?_)
  · obtain ⟨S, rows, v, b, rfl, _⟩ := h
    rfl
  obtain ⟨S, rows, v, b, rfl, ⟨dx, rv, nv, dv, rvs, kvs, hin⟩, hok, hkv, kS, kE⟩ := h
  refine ⟨_, (pss_cons (ps_if (PW.pt (pw_or (pt_not (pt_val (pe_call (ok_is_kind_name T) hr rfl T.g_is_kind_name T.F_is_kind_name.kp T.b_is_kind_name .nil passL (pa_cons (pv 1) pa_nil)))) (pw_or1 (pt_cmpR op_notIn_seq (pv 1) (pe_fld (pv 0) rfl) (by rfl))))) (pss_one (ps_raiseEr rfl T.er_NoKind hr (takes_of rfl rfl rfl rfl) T.g_NoKind (pa_cons (pv 1) pa_nil))) pss_nil)
    (pss_one (ps_ret (pe_dget (hu_of hr) (pe_fld (pv 0) rfl) (pv 1) (fun _ _ => rfl))))), ?_⟩
  rw [show L2.start ["self", "name"] [V.ref S, v] = [some (V.ref S), some (v)] from rfl]
  have cl := T.ow_Schema.cl
  have f2 := T.no_Schema_names
  have f3 := T.no_Schema_known
  walk_at "w_go"
  refine ⟨v, b, rfl, hkv, fun H1 s1 => ?_⟩
  have eS := s1 _ _ hin.at_
  have eN := s1 _ _ hin.nms
  have kn1 := hin.kn.same s1
  have ed := kn1.at_
  walk_at "w_go"
  cases b
  · walk_at "w_go"
    rename_i d H2 n2 s2 e2
    refine kE (fun n hv hn => ?_) d H2 (s1.trans s2) (s1.free n2) e2
    subst hv
    rcases hkv with ⟨x, hx, _, hb⟩ | ⟨_, h, _⟩
    · cases hx
      rw [hok.ok.kn hn] at hb
      cases hb
    · exact h _ rfl
  · rcases hkv with ⟨x, rfl, _, hb⟩ | ⟨_, _, h⟩
    · walk_at "w_go"
      refine r_inSN (.inr (.of eN)) ?_
      walk_at "w_go"
      by_cases hx : x ∈ names rows
      · refine iteF' (by simp [hx]) ?_
        obtain ⟨r, v0, hr0, rfl, hv0, k0⟩ := known_some kn1 hx
        walk_at "w_go"
        refine r_dgetK ed hv0 ?_
        exact kS r v0 H1 rfl hr0 s1 k0
      · refine iteT' (by simp [hx]) ?_
        walk_at "w_go"
        rename_i d H2 n2 s2 e2
        exact kE (fun n hv hn => hx (by cases hv; exact hn)) d H2 (s1.trans s2) (s1.free n2) e2
    · cases h
theorem ok_Schema_under (T : Txt P K mg ad) : FnOk P w K mg base (L2.CX P w) 6 ad.Schema_under ad.fd_Schema_under ["self", "name"] (spUnd ad.Kind ad.Schema ad.NoKind) := by
  refine T.F_Schema_under.okX sc_Schema_under (fun vs H Q E h => ?_) (fun cdv A outer s H vs Q E hr h => ?_)
  · obtain ⟨S, rows, v, b, rfl, _⟩ := h
    rfl
  obtain ⟨S, rows, v, b, rfl, hS, hok, hkv, kS, kE⟩ := h
  have hS0 := hS
  obtain ⟨dx, rv, nv, dv, rvs, kvs, hin⟩ := hS0
  refine ⟨_, (pss_cons (ps_set (i := 2) sc_Schema_under.nd rfl (Or.inr rfl) (pe_ixOwn (ok_Schema_getitem T) hr T.me_Schema_getitem (fun_in T.F_Schema_getitem) T.b_Schema_getitem (passes_call (takes_of rfl rfl rfl rfl) (fun _ _ _ _ h => h)) (pv 0) (pv 1) (fun _ _ => rfl)))
    (pss_one (ps_ret (pe_lc (own := [("one", 3)]) (g := gName 3) rfl sc_Schema_under.nd (pi_tup (pe_fld (pv 0) rfl)) (blkOk_by (own := [("one", 3)]) (N := ["self", "name", "above", "one"]) (sc := defScope s_Schema_under) (by decide +kernel)) (fun _ _ _ _ _ => pg_name (i := 3) sc_Schema_under.nd rfl (Or.inl rfl)) (fun _ _ _ _ _ => (pts_one (PW.pt (pw_and (pt_not (pt_val (pe_fld (pe_dget (hu_of hr) (pe_fld (pv 0) rfl : PE _ _ (tFld K _ _)) (pv 3) (fun _ _ => rfl)) rfl : PE _ _ (tFld K _ _)))) (pw_and1 (pt_cmpR (op_in_seq : OpR _ _ (rIn K false)) (pe_fld (pv 2) rfl : PE _ _ (tFld K _ _)) (pe_fld (pe_dget (hu_of hr) (pe_fld (pv 0) rfl : PE _ _ (tFld K _ _)) (pv 3) (fun _ _ => rfl)) rfl : PE _ _ (tFld K _ _)) (by rfl))))))) (fun _ _ _ _ _ => (pv 3)))))), ?_⟩
  rw [show L2.start ["self", "name", "above", "one"] [V.ref S, v] = [some (V.ref S), some (v), none, none] from rfl]
  have cl := T.ow_Kind.cl
  have clS := T.ow_Schema.cl
  have f1 := T.no_Kind_name
  have f2 := T.no_Kind_line
  have f3 := T.no_Kind_is_abstract
  have f4 := T.no_Schema_names
  have f5 := T.no_Schema_known
  walk_at "w_go"
  refine r_ixOwn hin.at_ ⟨S, rows, v, b, rfl, hS, hok, hkv, fun r kv H1 hv hr1 s1 k1 => ?_, kE⟩
  obtain ⟨a1, kdx1, bv1, ov1, la1, fa1, fvs1, rfl, kin1⟩ := k1
  have g1 := kin1.at_
  have eS := s1 _ _ hin.at_
  have eN := s1 _ _ hin.nms
  have kn1 := hin.kn.same s1
  have ed := kn1.at_
  walk_at "w_go"
  refine r_itK (.of eN) ?_
  refine r_lcW walk_tup rows (by unfold names; rw [List.length_map, List.length_map]) (fun r0 => !r0.abs && decide (r.name ∈ lineF rows r0.name)) (fun r0 y _ => y = V.str r0.name) (fun _ _ _ _ h _ => h) (fun _ s => .of (s _ _ eN)) (by rw [PySem.sizeLine_eq]; unfold names; rw [List.length_map, List.length_map]; have := hok.few; omega) (fun D j r0 y Hi Hj acc Kt Kf hD ha sI eD yy kt kf => ?_) (fun q ys H2 n2 s2 e2 hr2 => ?_)
  · obtain ⟨rfl, hx⟩ := yy
    have hy : ((names rows).map V.str)[j]? = some (.str r0.name) := by
      unfold names
      rw [List.getElem?_map, List.getElem?_map, ha] <;> rfl
    rw [hx] at hy
    cases hy
    obtain ⟨v0, hv0, a0, kdx0, bv0, ov0, la0, fa0, fvs0, rfl, kin0⟩ := (kn1.same sI).knd r0 (List.mem_of_getElem? ha)
    have g0 := kin0.at_
    have eSj := sI _ _ eS
    have edj := sI _ _ ed
    have g1j := sI _ _ g1
    refine ⟨wipe_set1, ?_⟩
    walk_at "w_go"
    refine r_dgetK edj hv0 ?_
    refine r_fldK g0 cl f3 rfl ?_
    refine ⟨_, rfl, ?_⟩
    cases hab : r0.abs
    · refine iteT' rfl ?_
      walk_at "w_go"
      refine r_dgetK edj hv0 ?_
      refine r_fldK g0 cl f2 rfl ?_
      refine r_inSP (.inr (.of kin0.line)) ?_
      rw [hab] at kt kf
      walk_at "w_go"
      by_cases hm : r.name ∈ lineF rows r0.name
      · refine iteT' (by simp [hm]) ?_
        walk_at "w_go"
        exact kt (by simp [hm]) _ _ (Same.refl _) rfl
      · refine iteF' (by simp [hm]) ?_
        exact kf (by simp [hm]) _ (Same.refl _)
    · refine iteF' rfl ?_
      refine iteF' rfl ?_
      exact kf (by rw [hab]; rfl) _ (Same.refl _)
  · have hys := all2_map hr2
    have hys2 : ys = (underF rows r.name).map V.str := by
      rw [hys, under_rows, List.map_map]
      rfl
    rw [hys2] at e2
    exact kS _ q H2 hv (List.mem_map_of_mem hr1) (s1.trans s2) (s1.free n2) e2
end
end Wm
namespace Wm
open PySem L2

section
variable {P : Program} {w : World} {K : PySem.W.Frag} {mg : Str → Option Value} {base : Heap} {ad : Ad}
theorem ok_l_pick (T : Txt P K mg ad) : FnOk P w K mg base (L2.CX P w) 3 ad.l_pick ad.fd_l_pick ["_law_pen_here", "_law_options"] spPick := by
  refine T.F_l_pick.okX sc_l_pick (fun vs H Q E h => ?_) (fun cdv A outer s H vs Q E hr h => ?_)
  · obtain ⟨p, c, L, xs, rfl, _⟩ := h
    rfl
  obtain ⟨p, c, L, xs, rfl, hp, eL, h1, h2, q⟩ := h
  refine ⟨_, (pss_one (ps_ret (pe_ix ix_list (pv 1) (pe_call (ok_l_take T) hr rfl T.g_l_take T.F_l_take.kp T.b_l_take .nil passL (pa_cons (pv 0) (pa_cons (pe_callB c_len (by rfl) T.n_len PySem.boot_len (pa_cons (pv 1) pa_nil)) pa_nil))) (fun _ _ => rfl)))), ?_⟩
  rw [show L2.start ["_law_pen_here", "_law_options"] [V.ref p, V.ref L] = [some (V.ref p), some (V.ref L)] from rfl]
  walk_at "w_go"
  refine r_take hp (by omega) (by omega) (fun i H1 a0 a1 t1 => ?_)
  exact r_anyIx (t1.at hp eL rfl) a0 a1 rfl (fun v hv => q v H1 hv t1)
theorem ok_l_guard_drawn (T : Txt P K mg ad) : FnOk P w K mg base (L2.CX P w) 4 ad.l_guard_drawn ad.fd_l_guard_drawn ["_law_pen_here"] spGDrawn := by
  refine T.F_l_guard_drawn.okX sc_l_guard_drawn (fun vs H Q E h => ?_) (fun cdv A outer s H vs Q E hr h => ?_)
  · obtain ⟨p, c, rfl, _⟩ := h
    rfl
  obtain ⟨p, c, rfl, hp, q⟩ := h
  refine ⟨_, (pss_cons (ps_set (i := 1) sc_l_guard_drawn.nd rfl (Or.inl rfl) (pe_call (ok_l_pick T) hr rfl T.g_l_pick T.F_l_pick.kp T.b_l_pick .nil passL (pa_cons (pv 0) (pa_cons (pe_lst (pa_cons pe_str (pa_cons pe_str (pa_cons pe_str (pa_cons pe_str (pa_cons pe_str (pa_cons pe_str pa_nil))))))) pa_nil))))
    (pss_cons (ps_set (i := 2) sc_l_guard_drawn.nd rfl (Or.inl rfl) (pe_call (ok_l_pick T) hr rfl T.g_l_pick T.F_l_pick.kp T.b_l_pick .nil passL (pa_cons (pv 0) (pa_cons (pe_lst (pa_cons pe_str (pa_cons pe_str (pa_cons pe_str (pa_cons pe_str pa_nil))))) pa_nil))))
    (pss_cons (ps_set (i := 3) sc_l_guard_drawn.nd rfl (Or.inl rfl) (pe_ifExp (pt_cmpR op_ne (pv 1) pe_str (nomark _)) (pe_call (ok_l_pick T) hr rfl T.g_l_pick T.F_l_pick.kp T.b_l_pick .nil passL (pa_cons (pv 0) (pa_cons (pe_lst (pa_cons pe_str (pa_cons pe_str (pa_cons pe_str (pa_cons pe_str pa_nil))))) pa_nil))) pe_str))
    (pss_cons (ps_set (i := 4) sc_l_guard_drawn.nd rfl (Or.inl rfl) (pe_ifExp (pt_cmpR op_ne (pv 1) pe_str (nomark _)) (pe_call (ok_l_pick T) hr rfl T.g_l_pick T.F_l_pick.kp T.b_l_pick .nil passL (pa_cons (pv 0) (pa_cons (pe_lst (pa_cons pe_str (pa_cons pe_str (pa_cons pe_str pa_nil)))) pa_nil))) pe_str))
    (pss_cons (ps_set (i := 5) sc_l_guard_drawn.nd rfl (Or.inl rfl) (pe_ifExp (pt_cmpR op_ne (pv 2) pe_str (nomark _)) (pe_call (ok_l_pick T) hr rfl T.g_l_pick T.F_l_pick.kp T.b_l_pick .nil passL (pa_cons (pv 0) (pa_cons (pe_lst (pa_cons pe_str (pa_cons pe_str (pa_cons pe_str pa_nil)))) pa_nil))) pe_str))
    (pss_one (ps_ret (pe_tup (pa_cons (pv 1) (pa_cons (pv 3) (pa_cons (pv 4) (pa_cons (pv 2) (pa_cons (pv 5) pa_nil))))))))))))), ?_⟩
  rw [show L2.start ["_law_pen_here", "_law_mark", "_law_saved", "_law_deed", "_law_kin", "_law_saved_by"] [V.ref p] = [some (V.ref p), none, none, none, none, none] from rfl]
  walk_at "w_go"
  rename_i q1 H1 n1 s1 e1
  refine ⟨p, c, q1, _, rfl, hp.same s1, e1, by decide, by decide, fun v H2 hv t2 => ?_⟩
  have T2 := (PenStep.refl hp).same s1 |>.trans t2
  have hp2 := t2.pen
  have hm : ∃ m : Str, v = .str m ∧ m ∈ MARKSl := by
    simp only [List.mem_cons, List.not_mem_nil, or_false] at hv
    rcases hv with rfl | rfl | rfl | rfl | rfl | rfl <;> exact ⟨_, rfl, by decide +kernel⟩
  obtain ⟨m, rfl, hm⟩ := hm
  walk_at "w_go"
  rename_i q3 H3 n3 s3 e3
  refine ⟨p, c, q3, _, rfl, hp2.same s3, e3, by decide, by decide, fun v H4 hv t4 => ?_⟩
  have T4 := (T2.same s3).trans t4
  have hp4 := t4.pen
  have hk : ∃ k : Str, v = .str k ∧ k ∈ KEEPSl := by
    simp only [List.mem_cons, List.not_mem_nil, or_false] at hv
    rcases hv with rfl | rfl | rfl | rfl <;> exact ⟨_, rfl, by decide +kernel⟩
  obtain ⟨k, rfl, hk⟩ := hk
  clear T2 hv s1 s3 e1 e3 n1 n3 t2 t4 hp2
  walk_at "w_go"
  refine r_ifG (fun v H' => ∃ d : Str, v = .str d ∧ d ∈ ACTSl ∧ PenStep p c H H' ∧ (m = "none" → d = "ring")) (fun hb R kk => ?_) (fun hb R kk => ?_) (fun v H5 hv => ?_)
  · walk_at "w_go"
    rename_i q5 H5 n5 s5 e5
    refine ⟨p, c, q5, _, rfl, hp4.same s5, e5, by decide, by decide, fun v H6 hv t6 => kk _ _ ?_⟩
    have hd : ∃ d : Str, v = .str d ∧ d ∈ ACTSl := by
      simp only [List.mem_cons, List.not_mem_nil, or_false] at hv
      rcases hv with rfl | rfl | rfl | rfl <;> exact ⟨_, rfl, by decide +kernel⟩
    obtain ⟨d, hd1, hd2⟩ := hd
    exact ⟨d, hd1, hd2, (T4.same s5).trans t6, fun z => by simp [z] at hb⟩
  · walk_at "w_go"
    exact kk _ _ ⟨_, rfl, by decide +kernel, T4, fun _ => rfl⟩
  obtain ⟨d, rfl, hd, T5, hmd⟩ := hv
  have hp5 := T5.pen
  clear T4 hp4
  walk_at "w_go"
  refine r_ifG (fun v H' => ∃ d : Str, v = .str d ∧ d ∈ BYl ∧ PenStep p c H H' ∧ (m = "none" → d = "same")) (fun hb R kk => ?_) (fun hb R kk => ?_) (fun v H6 hv => ?_)
  · walk_at "w_go"
    rename_i q5 H5 n5 s5 e5
    refine ⟨p, c, q5, _, rfl, hp5.same s5, e5, by decide, by decide, fun v H6 hv t6 => kk _ _ ?_⟩
    have hd : ∃ d : Str, v = .str d ∧ d ∈ BYl := by
      simp only [List.mem_cons, List.not_mem_nil, or_false] at hv
      rcases hv with rfl | rfl | rfl <;> exact ⟨_, rfl, by decide +kernel⟩
    obtain ⟨d, hd1, hd2⟩ := hd
    exact ⟨d, hd1, hd2, (T5.same s5).trans t6, fun z => by simp [z] at hb⟩
  · walk_at "w_go"
    exact kk _ _ ⟨_, rfl, by decide +kernel, T5, fun _ => rfl⟩
  obtain ⟨b, rfl, hbb, T6, hmb⟩ := hv
  have hp6 := T6.pen
  clear T5 hp5
  walk_at "w_go"
  refine r_ifG (fun v H' => ∃ d : Str, v = .str d ∧ d ∈ BYl ∧ PenStep p c H H' ∧ (k = "none" → d = "same")) (fun hb R kk => ?_) (fun hb R kk => ?_) (fun v H7 hv => ?_)
  · walk_at "w_go"
    rename_i q5 H5 n5 s5 e5
    refine ⟨p, c, q5, _, rfl, hp6.same s5, e5, by decide, by decide, fun v H6 hv t6 => kk _ _ ?_⟩
    have hd : ∃ d : Str, v = .str d ∧ d ∈ BYl := by
      simp only [List.mem_cons, List.not_mem_nil, or_false] at hv
      rcases hv with rfl | rfl | rfl <;> exact ⟨_, rfl, by decide +kernel⟩
    obtain ⟨d, hd1, hd2⟩ := hd
    exact ⟨d, hd1, hd2, (T6.same s5).trans t6, fun z => by simp [z] at hb⟩
  · walk_at "w_go"
    exact kk _ _ ⟨_, rfl, by decide +kernel, T6, fun _ => rfl⟩
  obtain ⟨e, rfl, he, T7, hke⟩ := hv
  walk_at "w_go"
  rename_i q8 H8 n8 s8 e8
  refine q ⟨m, d, b, k, e⟩ q8 H8 ⟨hm, hd, hbb, hk, he, ?_⟩ (T7.same s8) (T7.free n8) e8
  show plain5 m d b k e = [m, d, b, k, e]
  unfold plain5
  by_cases z : m = "none"
  · rw [if_pos z, if_pos z, hmd z, hmb z]
    by_cases y : k = "none"
    · rw [if_pos y, hke y]
    · rw [if_neg y]
  · rw [if_neg z, if_neg z]
    by_cases y : k = "none"
    · rw [if_pos y, hke y]
    · rw [if_neg y]
theorem ok_l_guard_made (T : Txt P K mg ad) : FnOk P w K mg base (L2.CX P w) 5 ad.l_guard_made ad.fd_l_guard_made ["_law_plain"] (spGMade ad.Guard) := by
  refine T.F_l_guard_made.okX sc_l_guard_made (fun vs H Q E h => ?_) (fun cdv A outer s H vs Q E hr h => ?_)
  · obtain ⟨v, g, rfl, _⟩ := h
    rfl
  obtain ⟨v, g, rfl, ⟨q, rfl, e⟩, ok, k⟩ := h
  obtain ⟨gA, hbAll⟩ := kb_all T.F_Guard_init
  refine ⟨_, (pss_one (ps_ret (pe_makeK T.mk_Guard (ok_Guard_init T) hr rfl T.g_Guard hbAll passL (pa_cons (pe_ix ix_tup (pv 0) pe_int (fun _ _ => rfl)) pa_nil) (pk_cons (pe_ix ix_tup (pv 0) pe_int (fun _ _ => rfl)) (pk_cons (pe_ix ix_tup (pv 0) pe_int (fun _ _ => rfl)) (pk_cons (pe_ix ix_tup (pv 0) pe_int (fun _ _ => rfl)) (pk_cons (pe_ix ix_tup (pv 0) pe_int (fun _ _ => rfl)) pk_nil))))))), ?_⟩
  rw [show L2.start ["_law_plain"] [V.ref q] = [some (V.ref q)] from rfl]
  walk_at "w_go"
  rename_i x dx H1 n1 s1 e1
  refine sp_initG e1 ok.m ok.a ok.b ok.k ok.e (fun H2 hb e2 => ?_)
  walk_at "w_go"
  have pl := ok.pl
  rw [pl] at e2
  exact k x H2 (same_but n1 s1 hb) n1 ⟨x, dx, rfl, e2⟩
end
end Wm
namespace Wm
open PySem L2

section
variable {P : Program} {w : World} {K : PySem.W.Frag} {mg : Str → Option Value} {base : Heap} {ad : Ad}
theorem ok_l_walker (T : Txt P K mg ad) : FnOk P w K mg base (L2.CX P w) 5 ad.l_walker ad.fd_l_walker ["_law_pen_here", "_law_rows_here"] spWalker := by
  refine T.F_l_walker.okX sc_l_walker (fun vs H Q E h => ?_) (fun cdv A outer s H vs Q E hr h => ?_)
  · obtain ⟨p, c, L, rows, rfl, _⟩ := h
    rfl
  obtain ⟨p, c, L, rows, rfl, hp, ⟨rvs, eL, hrows⟩, hok, q⟩ := h
  refine ⟨_, (pss_cons (ps_set (i := 2) sc_l_walker.nd rfl (Or.inl rfl) (pe_disp (pps_cons pe_str pe_dnewK (pps_cons pe_str (pe_lst pa_nil) (pps_cons pe_str (pe_lst pa_nil) (pps_cons pe_str pe_non (pps_cons pe_str (pe_cmpR op_gt (pe_call (ok_l_take T) (hr.mono (by decide)) rfl T.g_l_take T.F_l_take.kp T.b_l_take .nil passL (pa_cons (pv 0) (pa_cons pe_int pa_nil))) pe_int (nomark _)) pps_nil))))) (by rfl) (by rfl) (fun z => by cases z) (by decide)))
    (pss_cons (ps_dput (hu_of hr) (pv 2) pe_str (pe_call (ok_l_pick T) (hr.mono (by decide)) rfl T.g_l_pick T.F_l_pick.kp T.b_l_pick .nil passL (pa_cons (pv 0) (pa_cons (pe_lc (own := [("_law_row", 3)]) (g := gName 3) rfl sc_l_walker.nd (pi_list (pv 1)) (blkOk_by (own := [("_law_row", 3)]) (N := ["_law_pen_here", "_law_rows_here", "_law_walker_here", "_law_row", "_law_field", "_law_way"]) (sc := defScope s_l_walker) (by decide +kernel)) (fun _ _ _ _ _ => pg_name (i := 3) sc_l_walker.nd rfl (Or.inl rfl)) (fun _ _ _ _ _ => (pts_one (pt_cmpR (op_neP hr.units : OpR _ _ (rNeP K)) (pe_call (ok_l_under T) (hr.mono (by decide)) rfl T.g_l_under T.F_l_under.kp T.b_l_under .nil passL (pa_cons (pv 1) (pa_cons (pe_ix (ix_tup : IxR _ (rIxT K)) (pv 3) pe_int (fun _ _ => rfl)) pa_nil))) (pe_lst pa_nil) (nomark _)))) (fun _ _ _ _ _ => (pe_ix (ix_tup : IxR _ (rIxT K)) (pv 3) pe_int (fun _ _ => rfl)))) pa_nil))) rfl)
    (pss_cons (ps_for (passes_of rfl) rfl (pi_list (pv 1)) (pg_name (i := 3) sc_l_walker.nd rfl (Or.inl rfl)) (pss_cons (ps_if (pt_cmpR op_gt (pe_call (ok_l_take T) (hr.mono (by decide)) rfl T.g_l_take T.F_l_take.kp T.b_l_take .nil passL (pa_cons (pv 0) (pa_cons pe_int pa_nil))) pe_int (nomark _)) (pss_one (ps_dput (hu_of hr) (pe_dget (hu_of hr) (pv 2) pe_str (fun _ _ => rfl)) (pe_ix ix_tup (pv 3) pe_int (fun _ _ => rfl)) (pe_call (ok_l_guard_drawn T) hr rfl T.g_l_guard_drawn T.F_l_guard_drawn.kp T.b_l_guard_drawn .nil passL (pa_cons (pv 0) pa_nil)) rfl)) pss_nil)
    (pss_one (ps_for (passes_of rfl) rfl (pi_tup (pe_ix ix_tup (pv 3) pe_int (fun _ _ => rfl))) (pg_name (i := 4) sc_l_walker.nd rfl (Or.inl rfl)) (pss_cons (ps_set (i := 5) sc_l_walker.nd rfl (Or.inl rfl) (pe_call (ok_l_take T) (hr.mono (by decide)) rfl T.g_l_take T.F_l_take.kp T.b_l_take .nil passL (pa_cons (pv 0) (pa_cons pe_int pa_nil))))
    (pss_one (ps_if (pt_cmpR op_eq (pv 5) pe_int (nomark _)) (pss_one (ps_expr (pe_bm PySem.F.plainAttrs_list PySem.F.slot_list_append PySem.F.type_list_append mt_append (pe_dget (hu_of hr) (pv 2) pe_str (fun _ _ => rfl)) (pa_cons (pe_tup (pa_cons (pe_ix ix_tup (pv 3) pe_int (fun _ _ => rfl)) (pa_cons (pe_ix ix_tup (pv 4) pe_int (fun _ _ => rfl)) pa_nil))) pa_nil)))) (pss_one (ps_if (pt_cmpR op_eq (pv 5) pe_int (nomark _)) (pss_one (ps_expr (pe_bm PySem.F.plainAttrs_list PySem.F.slot_list_append PySem.F.type_list_append mt_append (pe_dget (hu_of hr) (pv 2) pe_str (fun _ _ => rfl)) (pa_cons (pe_tup (pa_cons (pe_ix ix_tup (pv 3) pe_int (fun _ _ => rfl)) (pa_cons (pe_ix ix_tup (pv 4) pe_int (fun _ _ => rfl)) pa_nil))) pa_nil)))) pss_nil)))))))))
    (pss_cons (ps_if (pt_val (pe_call (ok_l_bit T) (hr.mono (by decide)) rfl T.g_l_bit T.F_l_bit.kp T.b_l_bit .nil passL (pa_cons (pv 0) (pa_cons pe_int pa_nil)))) (pss_one (ps_dput (hu_of hr) (pv 2) pe_str (pe_call (ok_l_pick T) (hr.mono (by decide)) rfl T.g_l_pick T.F_l_pick.kp T.b_l_pick .nil passL (pa_cons (pv 0) (pa_cons (pe_lst (pa_cons pe_int (pa_cons pe_int (pa_cons pe_int (pa_cons pe_int (pa_cons pe_int (pa_cons pe_int (pa_cons pe_int (pa_cons (pe_call (ok_l_take T) (hr.mono (by decide)) rfl T.g_l_take T.F_l_take.kp T.b_l_take .nil passL (pa_cons (pv 0) (pa_cons pe_int pa_nil))) pa_nil))))))))) pa_nil))) rfl)) pss_nil)
    (pss_one (ps_ret (pv 2))))))), ?_⟩
  rw [show L2.start ["_law_pen_here", "_law_rows_here", "_law_walker_here", "_law_row", "_law_field", "_law_way"] [V.ref p, V.ref L] = [some (V.ref p), some (V.ref L), none, none, none, none] from rfl]
  walk_at "w_go"
  rename_i W H1 n1 s1 e1 gd H2 n2 s2 e2 ol H3 n3 s3 e3 al H4 n4 s4 e4
  have s04 := ((s1.trans s2).trans s3).trans s4
  have hp4 := hp.same s04
  refine r_take hp4 (by decide) (by decide) (fun fr H5 _ _ t5 => ?_)
  have T5 := ((PenStep.refl hp).same s04).trans t5
  have hp5 := t5.pen
  have nW : H W = none := n1
  have ngd : H gd = none := s1.free n2
  have nol : H ol = none := (s1.trans s2).free n3
  have nal : H al = none := ((s1.trans s2).trans s3).free n4
  obtain ⟨po, ep⟩ := hp.some_p
  have dWp : W ≠ p := fun z => by rw [z, ep] at nW; cases nW
  have dgp : gd ≠ p := fun z => by rw [z, ep] at ngd; cases ngd
  have dol : ol ≠ p := fun z => by rw [z, ep] at nol; cases nol
  have dal : al ≠ p := fun z => by rw [z, ep] at nal; cases nal
  have eW5 := t5.atd (s4 _ _ (s3 _ _ (s2 _ _ e1))) dWp
  have eg5 := t5.atd (s4 _ _ (s3 _ _ e2)) dgp
  have eo5 := t5.atd (s4 _ _ e3) dol
  have ea5 := t5.atd e4 dal
  have dWg : W ≠ gd := ne_of_none e1 n2
  have dWo : W ≠ ol := ne_of_none (s2 _ _ e1) n3
  have dWa : W ≠ al := ne_of_none (s3 _ _ (s2 _ _ e1)) n4
  have dgo : gd ≠ ol := ne_of_none e2 n3
  have dga : gd ≠ al := ne_of_none (s3 _ _ e2) n4
  have doa : ol ≠ al := ne_of_none e3 n4
  clear s1 s2 s3 s4 e1 e2 e3 e4 n1 n2 n3 n4 s04 t5 hp4
  walk_at "w_go"
  refine r_dispE (wkv5 gd ol al .non (decide (0 < fr))) (wkv5 gd ol al .non (decide (0 < fr))) eW5 rfl (by simp) (by rfl) ?_
  generalize hH6 : upd H5 W _ = H6
  have T6 : PenStep p c H H6 := by
    rw [← hH6]
    exact T5.put hp nW
  have eW6 : H6 W = some (.dK (wkv5 gd ol al .non (decide (0 < fr)))) := by
    rw [← hH6]
    exact upd_same
  have eg6 : H6 gd = some (.dK []) := by
    rw [← hH6]
    exact (upd_ne (Ne.symm dWg)).trans eg5
  have eo6 : H6 ol = some (.lst []) := by
    rw [← hH6]
    exact (upd_ne (Ne.symm dWo)).trans eo5
  have ea6 : H6 al = some (.lst []) := by
    rw [← hH6]
    exact (upd_ne (Ne.symm dWa)).trans ea5
  clear hH6 T5 hp5 eW5 eg5 eo5 ea5
  have hp6 := T6.pen
  have eL6 := T6.at hp eL rfl
  have hr6 := all2_rows hrows (tx_step hp T6)
  have hlen := hr6.len
  have hfew := hok.few
  walk_at "w_go"
  refine r_ilK (.of eL6) ?_
  refine r_lcW walk_list rows hlen (fun r => !decide (underF rows r.name = [])) (fun r y _ => y = V.str r.name) (fun _ _ _ _ h _ => h) (fun _ s => .of (s _ _ eL6)) (by rw [PySem.sizeLine_eq]; omega) (fun D j r y Hi Hj acc Kt Kf hD ha sI eD yy kt kf => ?_) (fun qc ys H7 n7 s7 e7 hr7 => ?_)
  · obtain ⟨rfl, hx⟩ := yy
    obtain ⟨y', hy', hf⟩ := hr6.left ha
    rw [hx] at hy'
    cases hy'
    obtain ⟨ra, bv, ov, rfl, era, _⟩ := hf.tx (tx_same sI)
    refine ⟨wipe_set1, ?_⟩
    walk_at "w_go"
    refine ⟨L, rows, names rows, r.name, rfl, ⟨rvs, sI _ _ eL6, all2_rows hr6 (tx_same sI)⟩, hok.ok, hfew, fun qu Hk sk nk ek => ?_⟩
    walk_at "w_go"
    rename_i qe Hl nl sl el
    refine r_neSS (underF rows r.name) [] (sl _ _ ek) el rfl rfl ?_
    walk_at "w_go"
    have s2l := sk.trans sl
    by_cases hu : underF rows r.name = []
    · refine iteF' (by simp [hu]) ?_
      exact kf (by simp [hu]) _ s2l
    · refine iteT' (by simp [hu]) ?_
      have er2 := s2l _ _ era
      walk_at "w_go"
      exact kt (by simp [hu]) _ _ s2l rfl
  · have hys := all2_map hr7
    have hne := filt_under hok
    have hle := List.length_filter_le (fun r => !decide (underF rows r.name = [])) rows
    have T7 := T6.same s7
    have hp7 := hp6.same s7
    have eW7 := s7 _ _ eW6
    have eg7 := s7 _ _ eg6
    have eo7 := s7 _ _ eo6
    have ea7 := s7 _ _ ea6
    walk_at "w_go"
    refine ⟨p, c, qc, ys, rfl, hp7, e7, by rw [hys, List.length_map]; exact List.length_pos_iff.mpr hne, by rw [hys, List.length_map]; omega, fun v H8 hv t8 => ?_⟩
    rw [hys] at hv
    obtain ⟨r0, hr0, rfl⟩ := List.mem_map.mp hv
    obtain ⟨hrm, hru⟩ := List.mem_filter.mp hr0
    have T8 := T7.trans t8
    have hp8 := t8.pen
    have eW8 := t8.atd eW7 dWp
    have eg8 := t8.atd eg7 dgp
    have eo8 := t8.atd eo7 dol
    have ea8 := t8.atd ea7 dal
    clear T6 hp6 eL6 hr6 T7 hp7 eW7 eg7 eo7 ea7 t8 s7 e7 n7 hr7 hys eW6 eg6 eo6 ea6 hv hr0
    have ds : Dst W gd ol al p := ⟨dWp, dgp, dol, dal, dWg, dWo, dWa, dgo, dga, doa⟩
    walk_at "w_go"
    generalize hH9 : upd H8 W _ = H9
    have T9 : PenStep p c H H9 := by
      rw [← hH9]
      exact T8.put hp nW
    have i9 : WkIn H9 ⟨r0.name, [], [], [], none, decide (0 < fr)⟩ W gd ol al [] [] [] := by
      rw [← hH9]
      exact ⟨upd_same, (upd_ne (Ne.symm dWg)).trans eg8, .nil, (upd_ne (Ne.symm dWo)).trans eo8, .nil, (upd_ne (Ne.symm dWa)).trans ea8, .nil⟩
    clear hH9 T8 hp8 eW8 eg8 eo8 ea8
    have hok1 := hok.ok
    have hu0 : underF rows r0.name ≠ [] := by simpa using hru
    have hn0 : r0.name ∈ names rows := List.mem_map_of_mem hrm
    refine r_ilK (.of (T9.at hp eL rfl)) (for_list (K := K) (a := L) (xs := rvs) (fun i σ H' => ∃ (w : Wk) (gvs : List (Key × V)) (ovs avs : List V) (x3 x4 x5 : Option V), σ = [some (.ref p), some (.ref L), some (.ref W), x3, x4, x5] ∧ PenStep p c H H' ∧ WkIn H' w W gd ol al gvs ovs avs ∧ WkPre (names (rows.take i)) (ownPairs (rows.take i)) w ∧ w.start = r0.name ∧ w.lim = none) ⟨_, _, _, _, _, _, _, rfl, T9, i9, ⟨List.Sublist.refl _, fun x hx => by simp at hx, List.Sublist.refl _, List.Sublist.refl _, fun x hx => by simp at hx⟩, rfl, rfl⟩ ?_ ?_ ?_)
    · rintro i σ H' _ ⟨w, gvs, ovs, avs, x3, x4, x5, rfl, T, _⟩
      exact .of (T.at hp eL rfl)
    · rintro i x σ H1 hi ⟨w, gvs, ovs, avs, x3, x4, x5, rfl, T1, i1, p1, hst, hlm⟩
      clear T9 i9
      have hp1 := T1.pen
      obtain ⟨r, hri, hra⟩ := hrows.right hi
      have hil : i < rows.length := (List.getElem?_eq_some_iff.mp hri).1
      have hrt : r ∈ rows := List.mem_of_getElem? hri
      obtain ⟨ra, bv, ov, rfl, erH, _, ⟨oa, ovs', rfl, eoH, ovrH⟩⟩ := hra
      have hnm : r.name ∉ w.gs.map (·.1) := fun z => (hok1 i r hri).fresh (p1.gs.subset z)
      have htn := take_names hri
      have hl6 : (names (rows.take i)).length ≤ 6 := by unfold names; rw [List.length_map, List.length_take]; omega
      have hop := own_pairs_len (rows := rows.take i) (k := 4) fun r hr => hok1.own_len (List.mem_of_mem_take hr)
      have hol := hok1.own_len hrt
      have hlt : (rows.take i).length ≤ 6 := by rw [List.length_take]; omega
      walk_at "w_go"
      refine r_take hp1 (by decide) (by decide) (fun b2 H2 _ _ t2 => ?_)
      have T2 := T1.trans t2
      have i2 := i1.step ds hp1 t2
      have hp2 := t2.pen
      clear t2 T1 i1 hp1
      walk_at "w_go"
      refine r_ifJ (fun σ H' => ∃ (w : Wk) (gvs : List (Key × V)), σ = [some (.ref p), some (.ref L), some (.ref W), some (.ref ra), x4, x5] ∧ PenStep p c H H' ∧ WkIn H' w W gd ol al gvs ovs avs ∧ WkPre (names (rows.take (i + 1))) (ownPairs (rows.take i)) w ∧ w.start = r0.name ∧ w.lim = none) ?_ ?_
      · rintro σ H3 ⟨w, gvs, rfl, T3, i3, p3, hst, hlm⟩
        have er3 := T3.at hp erH rfl
        have eo3 := T3.at hp eoH rfl
        walk_at "w_go"
        refine r_itK (.of eo3) (for_tup (K := K) (a := oa) (xs := ovs') (fun j σ H' => ∃ (w : Wk) (ovs avs : List V) (x4 x5 : Option V), σ = [some (.ref p), some (.ref L), some (.ref W), some (.ref ra), x4, x5] ∧ PenStep p c H H' ∧ WkIn H' w W gd ol al gvs ovs avs ∧ WkPre (names (rows.take (i + 1))) (ownPairs (rows.take i) ++ (r.own.take j).map fun f => (r.name, f.1)) w ∧ w.start = r0.name ∧ w.lim = none) ⟨w, ovs, avs, x4, x5, rfl, T3, i3, by simpa using p3, hst, hlm⟩ ?_ ?_ ?_)
        · rintro j σ H' _ ⟨w, ovs, avs, x4, x5, rfl, T, _⟩
          exact .of (T.at hp eoH rfl)
        · rintro j x σ H4 hj ⟨w, ovs, avs, x4, x5, rfl, T4, i4, p4, hst, hlm⟩
          obtain ⟨f, hfj, hfa⟩ := ovrH.right hj
          obtain ⟨fa, rfl, efH⟩ := hfa
          have hp4 := T4.pen
          have hnew := pair_new hok1 hri hfj
          have hl6' : (names (rows.take (i + 1))).length ≤ 6 := by unfold names; rw [List.length_map, List.length_take]; omega
          have hPl : (ownPairs (rows.take i) ++ (r.own.take j).map fun f => (r.name, f.1)).length ≤ 100 := by
            rw [List.length_append, List.length_map, List.length_take]
            omega
          obtain ⟨_, so, sa⟩ := p4.small hl6' hPl
          have htj : (r.own.take (j + 1)).map (fun f => (r.name, f.1)) = (r.own.take j).map (fun f => (r.name, f.1)) ++ [(r.name, f.1)] := by
            rw [take_more hfj, List.map_append] <;> rfl
          walk_at "w_go"
          refine r_take hp4 (by decide) (by decide) (fun way H5 _ _ t5 => ?_)
          have T5 := T4.trans t5
          have i5 := i4.step ds hp4 t5
          have eW5 := i5.at_
          have er5 := T5.at hp erH rfl
          have ef5 := T5.at hp efH rfl
          have lo := i5.o.len
          have la := i5.a.len
          have eo5' := i5.oat
          have ea5' := i5.aat
          clear T4 i4 hp4 t5
          walk_at "w_go"
          by_cases h0 : way = 0
          · refine iteT' (decide_eq_true h0) ?_
            walk_at "w_go"
            rename_i qp H6 n6 s6 e6
            have i6 := i5.same s6
            refine ⟨_, _, _, _, _, rfl, (T5.same s6).put hp nol, i6.putO ds (x := (r.name, f.1)) ⟨qp, rfl, e6⟩, ?_, hst, hlm⟩
            rw [htj, ← List.append_assoc]
            exact p4.outp hnew
          · refine iteF' (decide_eq_false h0) ?_
            walk_at "w_go"
            by_cases h1 : way = 1
            · refine iteT' (decide_eq_true h1) ?_
              walk_at "w_go"
              rename_i qp H6 n6 s6 e6
              have i6 := i5.same s6
              refine ⟨_, _, _, _, _, rfl, (T5.same s6).put hp nal, i6.putA ds (x := (r.name, f.1)) ⟨qp, rfl, e6⟩, ?_, hst, hlm⟩
              rw [htj, ← List.append_assoc]
              exact p4.anewp hnew
            · refine iteF' (decide_eq_false h1) ?_
              walk_at "w_go"
              refine ⟨_, _, _, _, _, rfl, T5, i5, ?_, hst, hlm⟩
              rw [htj, ← List.append_assoc]
              exact p4.none
        · rintro σ H4 ⟨w, ovs, avs, x4, x5, rfl, T4, i4, p4, hst, hlm⟩
          rw [← ovrH.len, List.take_length] at p4
          refine ⟨_, _, _, _, _, _, _, rfl, T4, i4, ?_, hst, hlm⟩
          rw [take_more hri, own_pairs_snoc]
          rw [take_more hri] at p4
          exact p4
      · intro N hN
        by_cases hb : 0 < b2
        · refine iteT' (decide_eq_true hb) ?_
          walk_at "w_go"
          refine ⟨p, c, rfl, hp2, fun g qg H3 hg t3 n3 e3 => ?_⟩
          have T3 := T2.trans t3
          have i3 := i2.step ds hp2 t3
          have eW3 := i3.at_
          have er3 := T3.at hp erH rfl
          have sz3 := (p1.small hl6 (by omega)).1
          have kl := congrArg List.length i3.keys
          simp only [List.length_map] at kl
          walk_at "w_go"
          refine r_dputK i3.gat (putK_new _ (i3.new hnm)) (by rw [PySem.sizeLine_eq]; omega) ?_
          exact hN _ _ ⟨_, _, rfl, T3.put hp ngd, i3.putG ds ⟨qg, rfl, e3⟩, by rw [htn]; exact p1.guard hg, hst, hlm⟩
        · refine iteF' (decide_eq_false hb) ?_
          walk_at "w_go"
          exact hN _ _ ⟨w, gvs, rfl, T2, i2, by rw [htn]; exact p1.gen, hst, hlm⟩
    · rintro σ H1 ⟨w, gvs, ovs, avs, x3, x4, x5, rfl, T1, i1, p1, hst, hlm⟩
      rw [← hrows.len, List.take_length] at p1
      have hp1 := T1.pen
      have fin : ∀ (w' : Wk) (H' : Hp), PenStep p c H H' → WkIn H' w' W gd ol al gvs ovs avs → WkPre (names rows) (ownPairs rows) w' → w'.start = r0.name → (∀ n, w'.lim = some n → n ≤ 20) → Q (.ref W) H' := fun w' H' T' i' p' hs' hl' =>
        q w' W H' ⟨by rw [hs']; exact hn0, by rw [hs']; exact hu0, p'.gs, p'.g5, p'.out, p'.anew, p'.dis, hl'⟩ T' nW ⟨gd, ol, al, gvs, ovs, avs, i', dWp, dgp, dWg⟩
      walk_at "w_go"
      refine ⟨p, c, 4, rfl, hp1, by decide, by decide, fun b H2 t2 => ?_⟩
      have T2 := T1.trans t2
      have i2 := i1.step ds hp1 t2
      have eW2 := i2.at_
      have hp2 := t2.pen
      walk_at "w_go"
      cases b
      · refine iteF' rfl ?_
        walk_at "w_go"
        exact fin w H2 T2 i2 p1 hst (fun n z => by rw [hlm] at z; cases z)
      · refine iteT' rfl ?_
        walk_at "w_go"
        refine r_take hp2 (by decide) (by decide) (fun big H3 g0 g1 t3 => ?_)
        have T3 := T2.trans t3
        have i3 := i2.step ds hp2 t3
        walk_at "w_go"
        rename_i qc' H4 n4 s4 e4
        have hp4 := t3.pen.same s4
        refine ⟨p, c, qc', _, rfl, hp4, e4, by simp, by simp, fun v H5 hv t5 => ?_⟩
        have T5 := (T3.same s4).trans t5
        have i5 := (i3.same s4).step ds hp4 t5
        have eW5 := i5.at_
        have hn : ∃ n : Nat, v = .int (n : Nat) ∧ n ≤ 20 := by
          simp only [List.mem_cons, List.not_mem_nil, or_false] at hv
          rcases hv with rfl | rfl | rfl | rfl | rfl | rfl | rfl | rfl
          · exact ⟨0, rfl, by decide⟩
          · exact ⟨1, rfl, by decide⟩
          · exact ⟨2, rfl, by decide⟩
          · exact ⟨3, rfl, by decide⟩
          · exact ⟨4, rfl, by decide⟩
          · exact ⟨5, rfl, by decide⟩
          · exact ⟨6, rfl, by decide⟩
          · exact ⟨big.toNat, by rw [Int.toNat_of_nonneg g0], by omega⟩
        obtain ⟨n, rfl, hn20⟩ := hn
        walk_at "w_go"
        refine r_dputK eW5 (wk_put_limit _ _ _ _ _ _ _) (by rw [PySem.sizeLine_eq]; simp [wkvs]) ?_
        walk_at "w_go"
        refine fin { w with lim := some n } _ (T5.put hp nW) (i5.putL ds) ⟨p1.gs, p1.g5, p1.out, p1.anew, p1.dis⟩ hst (fun m z => by cases z; exact hn20)
end
end Wm
namespace Wm
open PySem L2

section
variable {P : Program} {w : World} {K : PySem.W.Frag} {mg : Str → Option Value} {base : Heap} {ad : Ad}
theorem ok_Schema_contains (T : Txt P K mg ad) : FnOk P w K mg base (L2.CX P w) 4 ad.Schema_contains ad.fd_Schema_contains ["self", "thing"] (spCon ad.Kind ad.Schema) := by
  refine T.F_Schema_contains.okX sc_Schema_contains (fun vs H Q E h => ?_) (fun cdv A outer s H vs Q E hr h => ?_)
  · obtain ⟨S, rows, v, b, rfl, _⟩ := h
    rfl
  obtain ⟨S, rows, v, b, rfl, ⟨dx, rv, nv, dv, rvs, kvs, hin⟩, hok, hkv, q⟩ := h
  refine ⟨_, (pss_one (ps_ret (pe_and (pe_call (ok_is_kind_name T) hr rfl T.g_is_kind_name T.F_is_kind_name.kp T.b_is_kind_name .nil passL (pa_cons (pv 1) pa_nil)) (pe_one (pe_cmpR op_in_seq (pv 1) (pe_fld (pv 0) rfl) (by rfl)))))), ?_⟩
  rw [show L2.start ["self", "thing"] [V.ref S, v] = [some (V.ref S), some (v)] from rfl]
  have cl := T.ow_Schema.cl
  have f2 := T.no_Schema_names
  walk_at "w_go"
  refine ⟨v, b, rfl, hkv, fun H1 s1 => ?_⟩
  have eS := s1 _ _ hin.at_
  have eN := s1 _ _ hin.nms
  walk_at "w_go"
  cases b
  · refine iteF' rfl ?_
    walk_at "w_go"
    refine q false H1 s1 ⟨(fun z => by cases z), fun z => absurd (fun n e hn => ?_) z⟩
    subst e
    rcases hkv with ⟨x, hx, _, hb⟩ | ⟨_, h, _⟩
    · cases hx
      rw [hok.ok.kn hn] at hb
      cases hb
    · exact h _ rfl
  · rcases hkv with ⟨x, rfl, _, hb⟩ | ⟨_, _, h⟩
    · refine iteT' rfl ?_
      walk_at "w_go"
      refine r_inSP (.inr (.of eN)) ?_
      refine q _ H1 s1 ⟨fun z bad => bad x rfl (of_decide_eq_true z), fun z => decide_eq_true ?_⟩
      exact Classical.byContradiction fun hn => z fun n e => by
        cases e
        exact hn
    · cases h
theorem ok_is_start (T : Txt P K mg ad) : FnOk P w K mg base (L2.CX P w) 7 ad.is_start ad.fd_is_start ["schema", "thing"] (spStart ad.Kind ad.Schema) := by
  refine T.F_is_start.okX sc_is_start (fun vs H Q E h => ?_) (fun cdv A outer s H vs Q E hr h => ?_)
  · obtain ⟨S, rows, v, b, rfl, _⟩ := h
    rfl
  obtain ⟨S, rows, v, b, rfl, hS, hok, hkv, q⟩ := h
  have hS0 := hS
  obtain ⟨dx, rv, nv, dv, rvs, kvs, hin⟩ := hS0
  refine ⟨_, (pss_one (ps_ret (pe_and (pe_callB call_isi (by rfl) T.n_isinstance (by decide +kernel) (pa_cons (pv 1) (pa_cons (pe_bltn (v := .ty "str") (by rfl) T.n_str (by decide +kernel) rfl) pa_nil))) (pe_and (pe_cmpR (op_inOwn (ok_Schema_contains T) (hr.mono (by decide)) T.me_Schema_contains T.b_Schema_contains passL) (pv 1) (pv 0) (by rfl)) (pe_one (pe_cmpR (op_neP hr.units) (pe_meth (pv 0) T.ow_Schema.cl T.me_Schema_under (ok_Schema_under T) hr T.b_Schema_under .nil passL (pa_cons (pv 1) pa_nil)) (pe_lst pa_nil) (nomark _))))))), ?_⟩
  rw [show L2.start ["schema", "thing"] [V.ref S, v] = [some (V.ref S), some (v)] from rfl]
  have eS := hin.at_
  have clS := T.ow_Schema.cl
  rcases id hkv with ⟨x, rfl, hxl, hb⟩ | ⟨hany, hns, hb⟩
  · walk_at "w_go"
    refine r_isi (.base (.str _)) rfl ?_
    walk_at "w_go"
    refine r_inOwn eS ⟨S, rows, .str x, b, rfl, hS, hok, hkv, fun k H1 s1 hk => ?_⟩
    refine ⟨k, rfl, ?_⟩
    walk_at "w_go"
    have eS1 := s1 _ _ eS
    by_cases hx : x ∈ names rows
    · have hk1 : k = true := hk.mpr fun z => z x rfl hx
      subst hk1
      refine iteT' rfl ?_
      walk_at "w_go"
      refine ⟨S, rows, .str x, b, rfl, hS.same s1, hok, hkv.same s1, fun n' qU H2 e1 h1 s2 n2 e2 => ?_, fun z => absurd hx (z x rfl)⟩
      cases e1
      walk_at "w_go"
      rename_i qe H3 n3 s3 e3
      refine r_neSS (underF rows x) [] (s3 _ _ e2) e3 rfl rfl ?_
      refine q _ H3 ((s1.trans s2).trans s3) ⟨fun z => ⟨x, rfl, hx, by simpa using z⟩, fun ⟨n, e, _, hu⟩ => ?_⟩
      cases e
      simpa using hu
    · have hk1 : k = false := Bool.eq_false_iff.mpr fun z => hk.mp z fun n e hn => hx (by cases e; exact hn)
      subst hk1
      refine iteF' rfl ?_
      exact q _ H1 s1 ⟨(fun z => by cases z), fun ⟨n, e, hn, _⟩ => absurd (by cases e; exact hn) hx⟩
  · obtain ⟨ty, c, h1, h2, h3⟩ := hany.isStr (K := K)
    have hc : c = false := Bool.eq_false_iff.mpr fun z => by
      obtain ⟨x, e⟩ := h3.mp z
      exact hns x e
    subst hc
    walk_at "w_go"
    refine r_isi h1 h2 ?_
    walk_at "w_go"
    exact q _ H (Same.refl _) ⟨(fun z => by cases z), fun ⟨n, e, _, _⟩ => absurd e (hns n)⟩
theorem ok_is_pairs (T : Txt P K mg ad) : FnOk P w K mg base (L2.CX P w) 2 ad.is_pairs ad.fd_is_pairs ["thing"] (spPairs K) := by
  refine T.F_is_pairs.okX sc_is_pairs (fun vs H Q E h => ?_) (fun cdv A outer s H vs Q E hr h => ?_)
  · obtain ⟨a, xs, rfl, _⟩ := h
    rfl
  obtain ⟨a, xs, rfl, hS, hl, hx, q⟩ := h
  refine ⟨_, (pss_cons (ps_if (pt_not (pt_val (pe_callB call_isiT (by rfl) T.n_isinstance (by decide +kernel) (pa_cons (pv 0) (pa_cons (pe_tup (pa_cons (pe_bltn (v := .ty "list") (by rfl) T.n_list (by decide +kernel) rfl) (pa_cons (pe_bltn (v := .ty "tuple") (by rfl) T.n_tuple (by decide +kernel) rfl) pa_nil))) pa_nil))))) (pss_one (ps_ret pe_bl)) pss_nil)
    (pss_one (ps_ret (pe_callB (cr_all rfl) (by rfl) T.n_all (by decide +kernel) (pa_cons (pe_lc (own := [("pair", 1)]) (g := gName 1) (tt := tYes) rfl sc_is_pairs.nd (pi_or (pi_list (pv 0)) (pi_tup (pv 0))) (blkOk_by (own := [("pair", 1)]) (N := ["thing", "pair"]) (sc := defScope s_is_pairs) (by decide +kernel)) (fun _ _ _ _ _ => pg_name (i := 1) sc_is_pairs.nd rfl (Or.inl rfl)) (fun _ _ _ _ _ => pts_nil) (fun _ _ _ _ _ => (pe_and (pe_callB (call_isi : CallR _ (.builtin "isinstance") (rIsi K)) (by rfl) T.n_isinstance (by decide +kernel) (pa_cons (pv 1) (pa_cons (pe_bltn (v := .ty "tuple") (by rfl) T.n_tuple (by decide +kernel) rfl) pa_nil))) (pe_one (pe_cmpR op_eq (pe_callB (c_len : CallR _ (.builtin "len") (rLen K)) (by rfl) T.n_len PySem.boot_len (pa_cons (pv 1) pa_nil)) pe_int (nomark _)))))) pa_nil))))), ?_⟩
  rw [show L2.start ["thing", "pair"] [V.ref a] = [some (V.ref a), none] from rfl]
  walk_at "w_go"
  rename_i qt H1 n1 s1 e1
  have hS1 := hS.same s1
  refine r_isiB e1 hS1 ?_
  walk_at "w_go"
  refine r_iA rfl hS1.sqa (fun J G wJ hG => ?_)
  refine r_lcW wJ xs rfl (fun _ => true) (fun x y _ => y = V.bl true) (fun _ _ _ _ h _ => h) hG (by rw [PySem.sizeLine_eq]; omega) (fun D j x y Hi Hj acc Kt Kf hD ha sI eD yy kt kf => ?_) (fun q2 ys H2 n2 s2 e2 hr2 => ?_)
  · obtain ⟨rfl, hxx⟩ := yy
    rw [ha] at hxx
    cases hxx
    obtain ⟨tt, yv, zv, rfl, et⟩ := hx x (List.mem_of_getElem? ha)
    have et' := sI _ _ (s1 _ _ et)
    refine ⟨wipe_set1, ?_⟩
    walk_at "w_go"
    refine r_isi (.base (.tup et')) rfl ?_
    walk_at "w_go"
    exact kt rfl _ _ (Same.refl _) rfl
  · have hys := all2_map hr2
    rw [List.filter_eq_self.mpr (fun _ _ => rfl)] at hys
    walk_at "w_go"
    refine r_allK (bs := xs.map fun _ => true) (.of (by rw [e2, hys, List.map_map]; rfl)) ?_
    rw [show (xs.map fun _ => true).all id = true from by simp]
    exact q _ (s1.trans s2)
theorem ok_is_limit (T : Txt P K mg ad) : FnOk P w K mg base (L2.CX P w) 2 ad.is_limit ad.fd_is_limit ["thing"] spLimit := by
  refine T.F_is_limit.okX sc_is_limit (fun vs H Q E h => ?_) (fun cdv A outer s H vs Q E hr h => ?_)
  · obtain ⟨l, rfl, _⟩ := h
    rfl
  obtain ⟨l, rfl, hl, q⟩ := h
  obtain ⟨uM, gMOST_LIMIT, rMOST_LIMIT⟩ := T.u_MOST_LIMIT
  refine ⟨_, (pss_cons (ps_if (pt_cmpR op_isNn (pv 0) pe_non (nomark _)) (pss_one (ps_ret pe_bl)) pss_nil)
    (pss_one (ps_ret (pe_and (pe_callB call_isi (by rfl) T.n_isinstance (by decide +kernel) (pa_cons (pv 0) (pa_cons (pe_bltn (v := .ty "int") (by rfl) T.n_int (by decide +kernel) rfl) pa_nil))) (pe_and (pe_not (pe_callB call_isi (by rfl) T.n_isinstance (by decide +kernel) (pa_cons (pv 0) (pa_cons (pe_bltn (v := .ty "bool") (by rfl) T.n_bool (by decide +kernel) rfl) pa_nil)))) (pe_one (pe_chain op_le op_le pe_int (pv 0) (pe_glob (v := .int 20) (by rfl) gMOST_LIMIT rMOST_LIMIT)))))))), ?_⟩
  rw [show L2.start ["thing"] [limV l] = [some (limV l)] from rfl]
  cases l with
  | none =>
    walk_at "w_go"
    refine iteT' rfl ?_
    walk_at "w_go"
    exact q
  | some n =>
    have := hl n rfl
    rw [show limV (some n) = V.int ((n : Nat) : Int) from rfl]
    walk_at "w_go"
    refine iteF' rfl ?_
    walk_at "w_go"
    refine r_isi (.base (.int _)) rfl ?_
    walk_at "w_go"
    refine r_isi (.base (.int _)) rfl ?_
    walk_at "w_go"
    refine iteT' rfl ?_
    walk_at "w_go"
    refine iteT' (decide_eq_true (by omega)) ?_
    walk_at "w_go"
    rw [decide_eq_true (show (n : Int) ≤ 20 by omega)]
    exact q
theorem ok_is_guards (T : Txt P K mg ad) : FnOk P w K mg base (L2.CX P w) 5 ad.is_guards ad.fd_is_guards ["schema", "thing"] (spGuards K ad.Kind ad.Schema ad.Guard) := by
  refine T.F_is_guards.okX sc_is_guards (fun vs H Q E h => ?_) (fun cdv A outer s H vs Q E hr h => ?_)
  · obtain ⟨S, a, rows, gs, xs, rfl, _⟩ := h
    rfl
  obtain ⟨S, a, rows, gs, xs, rfl, hS, hok, hxs, hg, hin, hnd, q⟩ := h
  refine ⟨_, (pss_cons (ps_if (pt_not (pt_val (pe_call (ok_is_pairs T) (hr.mono (by decide)) rfl T.g_is_pairs T.F_is_pairs.kp T.b_is_pairs .nil passL (pa_cons (pv 1) pa_nil)))) (pss_one (ps_ret pe_bl)) pss_nil)
    (pss_cons (ps_set (i := 2) sc_is_guards.nd rfl (Or.inl rfl) (pe_lst pa_nil))
    (pss_cons (ps_for (passes_of rfl) rfl (pi_or (pi_list (pv 1)) (pi_tup (pv 1))) (pg_tup rfl (pgs_cons (pg_name (i := 3) sc_is_guards.nd rfl (Or.inl rfl)) (pgs_cons (pg_name (i := 4) sc_is_guards.nd rfl (Or.inl rfl)) pgs_nil))) (pss_cons (ps_if (PW.pt (pw_or (pt_not (pt_val (pe_callB call_isi (by rfl) T.n_isinstance (by decide +kernel) (pa_cons (pv 3) (pa_cons (pe_bltn (v := .ty "str") (by rfl) T.n_str (by decide +kernel) rfl) pa_nil))))) (pw_or (pt_cmpR (op_notInOwn (ok_Schema_contains T) hr T.me_Schema_contains T.b_Schema_contains passL) (pv 3) (pv 0) (by rfl)) (pw_or1 (pt_cmpR op_in_seq (pv 3) (pv 2) (by rfl)))))) (pss_one (ps_ret pe_bl)) pss_nil)
    (pss_cons (ps_if (pt_not (pt_val (pe_callB call_isi (by rfl) T.n_isinstance (by decide +kernel) (pa_cons (pv 4) (pa_cons (pe_glob (v := .ref ad.Guard) rfl T.g_Guard rfl) pa_nil))))) (pss_one (ps_ret pe_bl)) pss_nil)
    (pss_one (ps_expr (pe_bm PySem.F.plainAttrs_list PySem.F.slot_list_append PySem.F.type_list_append mt_append (pv 2) (pa_cons (pv 3) pa_nil)))))))
    (pss_one (ps_ret pe_bl))))), ?_⟩
  rw [show L2.start ["schema", "thing", "kinds", "kind", "guard"] [V.ref S, V.ref a] = [some (V.ref S), some (V.ref a), none, none, none] from rfl]
  have hlen := hg.len
  have hgl : gs.length ≤ 6 := by
    have h1 := nd_len hnd (fun x hx => (by
      obtain ⟨y, hy, rfl⟩ := List.mem_map.mp hx
      exact hin y hy : x ∈ names rows))
    have h2 := hok.few
    unfold names at h1
    simp only [List.length_map] at h1
    omega
  walk_at "w_go"
  refine ⟨a, xs, rfl, hxs, by omega, fun x hx => ?_, fun H1 s1 => ?_⟩
  · obtain ⟨i, hi⟩ := List.mem_iff_getElem?.mp hx
    obtain ⟨y, _, t, gv, rfl, e, _⟩ := hg.right hi
    exact ⟨t, _, _, rfl, e⟩
  have hg1 := hg.mono fun _ _ z => z.same s1
  have hS1 := hS.same s1
  walk_at "w_go"
  rename_i qk H2 n2 s2 e2
  have s02 := s1.trans s2
  have n2' : H qk = none := s1.free n2
  refine r_iA0 rfl hxs.sqa s02 (fun J G wJ hG => ?_)
  refine for_it wJ (fun i σ H' => ∃ (x3 x4 : Option V), σ = [some (.ref S), some (.ref a), some (.ref qk), x3, x4] ∧ Same H H' ∧ H' qk = some (.lst (((gs.take i).map (·.1)).map V.str))) ⟨_, _, rfl, s02, e2⟩ ?_ ?_ ?_
  · rintro i σ H' _ ⟨x3, x4, rfl, s, _⟩
    exact hG H' s
  · rintro i x σ H' H'' hi ⟨x3, x4, rfl, s, ek⟩ ⟨rfl, hx⟩
    obtain ⟨y, hyi, t, gv, rfl, et, ⟨ga, gdx, rfl, eg⟩⟩ := hg.right hx
    have hym := List.mem_of_getElem? hyi
    have hyn := hin y hym
    have lny := kindName_len (hok.ok.kn hyn)
    refine r_gtupK (s _ _ et) rfl ?_
    walk_at "w_go"
    refine r_isi (.base (.str _)) rfl ?_
    walk_at "w_go"
    have hSs := hS.same s
    obtain ⟨dx, rv, nv, dv, rvs, kvs, hinS⟩ := id hSs
    refine r_notInOwn hinS.at_ ⟨S, rows, .str y.1, _, rfl, hSs, hok, kn_str lny, fun k H3 s3 hk => ?_⟩
    have hk1 : k = true := hk.mpr fun z => z _ rfl hyn
    subst hk1
    refine ⟨true, rfl, ?_⟩
    have s03 := s.trans s3
    have ek3 := s3 _ _ ek
    walk_at "w_go"
    refine r_inSP (.inl (.of ek3)) ?_
    walk_at "w_go"
    have hfresh : y.1 ∉ (gs.take i).map (·.1) := fun z => by
      have e2 : (gs.map (·.1)).take i ++ (gs.map (·.1)).drop i = gs.map (·.1) := List.take_append_drop _ _
      have nd := hnd
      rw [← e2, List.nodup_append] at nd
      rw [List.map_take] at z
      refine nd.2.2 _ z _ ?_ rfl
      obtain ⟨hl, he⟩ := List.getElem?_eq_some_iff.mp hyi
      rw [← List.map_drop, List.drop_eq_getElem_cons hl, he]
      simp
    refine iteF' (decide_eq_false hfresh) ?_
    walk_at "w_go"
    have eg3 := s03 _ _ eg
    refine r_isiO (T.ow_Guard.ty eg3) T.ow_Guard.self ?_
    walk_at "w_go"
    have hl2 : ((gs.take i).map (·.1)).length ≤ 6 := by rw [List.length_map, List.length_take]; omega
    refine r_append ek3 (by rw [PySem.sizeLine_eq, List.length_map]; omega) ?_
    walk_at "w_go"
    refine ⟨_, _, rfl, same_put s03 n2', ?_⟩
    rw [upd_same, take_more hyi]
    simp
  · rintro σ H' ⟨x3, x4, rfl, s, ek⟩
    walk_at "w_go"
    exact q _ s
end
end Wm
namespace Wm
open PySem L2
open PySem.W (Datum)

section
variable {P : Program} {w : World} {K : PySem.W.Frag} {mg : Str → Option Value} {base : Heap} {ad : Ad}
theorem ok_is_owned (T : Txt P K mg ad) : FnOk P w K mg base (L2.CX P w) 6 ad.is_owned ad.fd_is_owned ["schema", "owner", "field"] (spOwned ad.Kind ad.Schema) := by
  refine T.F_is_owned.okX sc_is_owned (fun vs H Q E h => ?_) (fun cdv A outer s H vs Q E hr h => ?_)
  · obtain ⟨S, rows, o, f, rfl, _⟩ := h
    rfl
  obtain ⟨S, rows, o, f, rfl, hS, hok, hol, hfl, q⟩ := h
  have hS0 := hS
  obtain ⟨dx, rv, nv, dv, rvs, kvs, hin⟩ := hS0
  refine ⟨_, (pss_cons (ps_if (PW.pt (pw_or (pt_not (pt_val (pe_callB call_isi (by rfl) T.n_isinstance (by decide +kernel) (pa_cons (pv 1) (pa_cons (pe_bltn (v := .ty "str") (by rfl) T.n_str (by decide +kernel) rfl) pa_nil))))) (pw_or (pt_cmpR (op_notInOwn (ok_Schema_contains T) (hr.mono (by decide)) T.me_Schema_contains T.b_Schema_contains passL) (pv 1) (pv 0) (by rfl)) (pw_or1 (pt_not (pt_val (pe_callB call_isi (by rfl) T.n_isinstance (by decide +kernel) (pa_cons (pv 2) (pa_cons (pe_bltn (v := .ty "str") (by rfl) T.n_str (by decide +kernel) rfl) pa_nil))))))))) (pss_one (ps_ret pe_bl)) pss_nil)
    (pss_one (ps_ret (pe_cmpR op_in_seq (pv 2) (pe_lc (own := [("name", 3), ("mode", 4), ("target", 5)]) (g := gTup K 3 (gCons (gName 3) (gCons (gName 4) (gCons (gName 5) gNil)))) (tt := tYes) rfl sc_is_owned.nd (pi_tup (pe_fld (pe_ixOwn (ok_Schema_getitem T) hr T.me_Schema_getitem (fun_in T.F_Schema_getitem) T.b_Schema_getitem passL (pv 0) (pv 1) (fun _ _ => rfl)) rfl)) (blkOk_by (own := [("name", 3), ("mode", 4), ("target", 5)]) (N := ["schema", "owner", "field", "name", "mode", "target"]) (sc := defScope s_is_owned) (by decide +kernel)) (fun _ _ _ _ _ => pg_tup rfl (pgs_cons (pg_name (i := 3) sc_is_owned.nd rfl (Or.inl rfl)) (pgs_cons (pg_name (i := 4) sc_is_owned.nd rfl (Or.inl rfl)) (pgs_cons (pg_name (i := 5) sc_is_owned.nd rfl (Or.inl rfl)) pgs_nil)))) (fun _ _ _ _ _ => pts_nil) (fun _ _ _ _ _ => (pv 3))) (by rfl))))), ?_⟩
  rw [show L2.start ["schema", "owner", "field", "name", "mode", "target"] [V.ref S, V.str o, V.str f] = [some (V.ref S), some (V.str o), some (V.str f), none, none, none] from rfl]
  have eS := hin.at_
  have clK := T.ow_Kind.cl
  have f1 := T.no_Kind_own
  have hkv : KnV H (.str o) (kindName o) := .inl ⟨_, rfl, hol, rfl⟩
  walk_at "w_go"
  refine r_isi (.base (.str _)) rfl ?_
  walk_at "w_go"
  refine r_notInOwn eS ⟨S, rows, .str o, _, rfl, hS, hok, hkv, fun k H1 s1 hk => ?_⟩
  refine ⟨k, rfl, ?_⟩
  have eS1 := s1 _ _ eS
  by_cases ho : o ∈ names rows
  · have hk1 : k = true := hk.mpr fun z => z _ rfl ho
    subst hk1
    walk_at "w_go"
    refine r_isi (.base (.str _)) rfl ?_
    walk_at "w_go"
    refine r_ixOwn eS1 ⟨S, rows, .str o, _, rfl, hS.same s1, hok, hkv.same s1, fun r kv H2 hv hr2 s2 k2 => ?_, fun z => absurd ho (z _ rfl)⟩
    cases hv
    obtain ⟨a1, kdx, bv, ov, la, fa, fvs, rfl, kin⟩ := k2
    have g1 := kin.at_
    obtain ⟨oa, ovs, rfl, eo, ovr⟩ := kin.own
    walk_at "w_go"
    refine r_itK (.of eo) ?_
    have hol4 := hok.ok.own_len hr2
    refine r_lcW walk_tup r.own ovr.len (fun _ => true) (fun f y _ => y = V.str f.1) (fun _ _ _ _ h _ => h) (fun _ s => .of (s _ _ eo)) (by rw [PySem.sizeLine_eq, ← ovr.len]; omega) (fun D j g y Hi Hj acc Kt Kf hD ha sI eD yy kt kf => ?_) (fun qc ys H3 n3 s3 e3 hr3 => ?_)
    · obtain ⟨rfl, hx⟩ := yy
      obtain ⟨y', hy', hf⟩ := ovr.left ha
      rw [hx] at hy'
      cases hy'
      obtain ⟨ga, rfl, eg⟩ := hf.tx (tx_same sI)
      generalize hw : wipe [some (V.ref S), some (V.str r.name), some (V.str f), none, none, none] _ = σ0
      have hw2 : σ0 = [some (V.ref S), some (V.str r.name), some (V.str f), none, none, none] := hw.symm.trans rfl
      clear hw
      subst hw2
      refine r_gtupK eg rfl ?_
      walk_at "w_go"
      refine ⟨rfl, ?_⟩
      walk_at "w_go"
      exact kt rfl _ _ (Same.refl _) rfl
    · have hys := all2_map hr3
      rw [List.filter_eq_self.mpr (fun _ _ => rfl)] at hys
      refine r_inSP (ss := r.own.map (·.1)) (.inl (.of (by rw [e3, hys, List.map_map]; rfl))) ?_
      have := q H3 ((s1.trans s2).trans s3)
      unfold ownsF at this
      rw [decide_eq_true ho, Bool.true_and, own_of hok.ok.nd hr2] at this
      exact this
  · have hk1 : k = false := Bool.eq_false_iff.mpr fun z => hk.mp z fun n e hn => ho (by cases e; exact hn)
    subst hk1
    walk_at "w_go"
    have := q H1 s1
    unfold ownsF at this
    rw [decide_eq_false ho, Bool.false_and] at this
    exact this
theorem ok_is_fields (T : Txt P K mg ad) : FnOk P w K mg base (L2.CX P w) 7 ad.is_fields ad.fd_is_fields ["schema", "thing", "others"] (spFieldsP K ad.Kind ad.Schema) := by
  refine T.F_is_fields.okX sc_is_fields (fun vs H Q E h => ?_) (fun cdv A outer s H vs Q E hr h => ?_)
  · obtain ⟨S, a, b, rows, l, m, xs, ys, rfl, _⟩ := h
    rfl
  obtain ⟨S, a, b, rows, l, m, xs, ys, rfl, hS, hok, hxs, hl, hys, hm, how, hnd, hdis, hll, hml, q⟩ := h
  refine ⟨_, (pss_cons (ps_if (pt_not (pt_val (pe_call (ok_is_pairs T) (hr.mono (by decide)) rfl T.g_is_pairs T.F_is_pairs.kp T.b_is_pairs .nil passL (pa_cons (pv 1) pa_nil)))) (pss_one (ps_ret pe_bl)) pss_nil)
    (pss_cons (ps_set (i := 3) sc_is_fields.nd rfl (Or.inl rfl) (pe_lst pa_nil))
    (pss_cons (ps_for (passes_of rfl) rfl (pi_or (pi_list (pv 1)) (pi_tup (pv 1))) (pg_tup rfl (pgs_cons (pg_name (i := 4) sc_is_fields.nd rfl (Or.inl rfl)) (pgs_cons (pg_name (i := 5) sc_is_fields.nd rfl (Or.inl rfl)) pgs_nil))) (pss_cons (ps_if (pt_not (pt_val (pe_call (ok_is_owned T) hr rfl T.g_is_owned T.F_is_owned.kp T.b_is_owned .nil passL (pa_cons (pv 0) (pa_cons (pv 4) (pa_cons (pv 5) pa_nil)))))) (pss_one (ps_ret pe_bl)) pss_nil)
    (pss_cons (ps_if (PW.pt (pw_or (pt_cmpR (op_inP hr.units) (pe_tup (pa_cons (pv 4) (pa_cons (pv 5) pa_nil))) (pv 3) (by rfl)) (pw_or1 (pt_cmpR (op_inP hr.units) (pe_tup (pa_cons (pv 4) (pa_cons (pv 5) pa_nil))) (pv 2) (by rfl))))) (pss_one (ps_ret pe_bl)) pss_nil)
    (pss_one (ps_expr (pe_bm PySem.F.plainAttrs_list PySem.F.slot_list_append PySem.F.type_list_append mt_append (pv 3) (pa_cons (pe_tup (pa_cons (pv 4) (pa_cons (pv 5) pa_nil))) pa_nil)))))))
    (pss_one (ps_ret pe_bl))))), ?_⟩
  rw [show L2.start ["schema", "thing", "others", "found", "owner", "field"] [V.ref S, V.ref a, V.ref b] = [some (V.ref S), some (V.ref a), some (V.ref b), none, none, none] from rfl]
  have hlen := hl.len
  walk_at "w_go"
  refine ⟨a, xs, rfl, hxs, by omega, fun x hx => ?_, fun H1 s1 => ?_⟩
  · obtain ⟨i, hi⟩ := List.mem_iff_getElem?.mp hx
    obtain ⟨y, _, t, rfl, e⟩ := hl.right hi
    exact ⟨t, _, _, rfl, e⟩
  walk_at "w_go"
  rename_i qk H2 n2 s2 e2
  have s02 := s1.trans s2
  have n2' : H qk = none := s1.free n2
  refine r_iA0 rfl hxs.sqa s02 (fun J G wJ hG => ?_)
  refine for_it wJ (fun i σ H' => ∃ (x4 x5 : Option V) (fvs : List V), σ = [some (.ref S), some (.ref a), some (.ref b), some (.ref qk), x4, x5] ∧ Same H H' ∧ H' qk = some (.lst fvs) ∧ All2 (PairAt H') (l.take i) fvs) ⟨_, _, [], rfl, s02, e2, .nil⟩ ?_ ?_ ?_
  · rintro i σ H' _ ⟨x4, x5, fvs, rfl, s, _⟩
    exact hG H' s
  · rintro i x σ H' H'' hi ⟨x4, x5, fvs, rfl, s, ek, hfv⟩ ⟨rfl, hx⟩
    obtain ⟨y, hyi, t, rfl, et⟩ := hl.right hx
    have hym := List.mem_of_getElem? hyi
    obtain ⟨ho, l1, l2⟩ := how y hym
    refine r_gtupK (s _ _ et) rfl ?_
    walk_at "w_go"
    refine ⟨S, rows, y.1, y.2, rfl, hS.same s, hok, l1, l2, fun H3 s3 => ?_⟩
    rw [ho]
    have s03 := s.trans s3
    have ek3 := s3 _ _ ek
    have hfv3 := all2_pairs hfv (tx_same s3)
    walk_at "w_go"
    rename_i qp H4 n4 s4 e4
    have s04 := s03.trans s4
    have hyn : y ∉ l.take i := fun z => by
      have e2 : l.take i ++ l.drop i = l := List.take_append_drop _ _
      have nd := hnd
      rw [← e2, List.nodup_append] at nd
      refine nd.2.2 _ z _ ?_ rfl
      obtain ⟨hl', he⟩ := List.getElem?_eq_some_iff.mp hyi
      rw [List.drop_eq_getElem_cons hl', he]
      simp
    have hym' := hdis y hym
    have ek4 := s4 _ _ ek3
    have hfv4 := all2_pairs hfv3 (tx_same s4)
    refine ⟨qk, fvs, Datum.toD y, (l.take i).map Datum.toD, rfl, .inl (.of ek4), .tup (.of e4) (.cons (.str _) (.cons (.str _) .nil)), dps_pairs hfv4, Datum.plain y, plainAll_typed _, Nat.le_trans (Datum.depth_le y) (by decide), ?_⟩
    rw [if_neg (by simp), dataIn_typed]
    walk_at "w_go"
    refine iteF' (by simp [hyn]) ?_
    walk_at "w_go"
    rename_i qp5 H5 n5 s5 e5
    have s05 := s04.trans s5
    refine ⟨b, ys, Datum.toD y, m.map Datum.toD, rfl, (hys.same s05).sqa, .tup (.of e5) (.cons (.str _) (.cons (.str _) .nil)), dps_pairs (all2_pairs hm (tx_same s05)), Datum.plain y, plainAll_typed _, Nat.le_trans (Datum.depth_le y) (by decide), ?_⟩
    rw [if_neg (by simp), dataIn_typed]
    have ek5 := s5 _ _ ek4
    have hfv5 := all2_pairs hfv4 (tx_same s5)
    walk_at "w_go"
    refine iteF' (by simp [hym']) ?_
    walk_at "w_go"
    rename_i qp6 H6 n6 s6 e6
    have ek6 := s6 _ _ ek5
    have hfl := hfv5.len
    rw [List.length_take] at hfl
    refine r_append ek6 (by rw [PySem.sizeLine_eq]; omega) ?_
    walk_at "w_go"
    have tl : Tx H6 (upd H6 qk (.lst (fvs ++ [V.ref qp6]))) := tx_lst ek6
    refine ⟨_, _, _, rfl, same_put (s05.trans s6) n2', upd_same, ?_⟩
    rw [take_more hyi]
    exact (all2_pairs (all2_pairs hfv5 (tx_same s6)) tl).snoc ⟨qp6, rfl, tl _ _ e6⟩
  · rintro σ H' ⟨x4, x5, fvs, rfl, s, ek, hfv⟩
    walk_at "w_go"
    exact q _ s
end
end Wm
namespace Wm
open PySem L2
open PySem.W (Datum)

section
variable {P : Program} {w : World} {K : PySem.W.Frag} {mg : Str → Option Value} {base : Heap} {ad : Ad}
theorem ok_wrong_part (T : Txt P K mg ad) : FnOk P w K mg base (L2.CX P w) 8 ad.wrong_part ad.fd_wrong_part ["schema", "parts"] (spWrong K ad.Kind ad.Schema ad.Guard) := by
  refine T.F_wrong_part.okX sc_wrong_part (fun vs H Q E h => ?_) (fun cdv A outer s H vs Q E hr h => ?_)
  · obtain ⟨S, d, rows, w, ga, oa, na, gxs, oxs, nxs, rfl, _⟩ := h
    rfl
  obtain ⟨S, d, rows, w, ga, oa, na, gxs, oxs, nxs, rfl, hS, hok, ed, pt, q⟩ := h
  refine ⟨_, (pss_cons (ps_if (pt_not (pt_val (pe_call (ok_is_start T) hr rfl T.g_is_start T.F_is_start.kp T.b_is_start .nil passL (pa_cons (pv 0) (pa_cons (pe_dget (hu_of hr) (pv 1) pe_str (fun _ _ => rfl)) pa_nil))))) (pss_one (ps_ret pe_str)) pss_nil)
    (pss_cons (ps_if (pt_not (pt_val (pe_call (ok_is_guards T) (hr.mono (by decide)) rfl T.g_is_guards T.F_is_guards.kp T.b_is_guards .nil passL (pa_cons (pv 0) (pa_cons (pe_dget (hu_of hr) (pv 1) pe_str (fun _ _ => rfl)) pa_nil))))) (pss_one (ps_ret pe_str)) pss_nil)
    (pss_cons (ps_if (pt_not (pt_val (pe_call (ok_is_fields T) hr rfl T.g_is_fields T.F_is_fields.kp T.b_is_fields .nil passL (pa_cons (pv 0) (pa_cons (pe_dget (hu_of hr) (pv 1) pe_str (fun _ _ => rfl)) (pa_cons (pe_tup pa_nil) pa_nil)))))) (pss_one (ps_ret pe_str)) pss_nil)
    (pss_cons (ps_if (pt_not (pt_val (pe_call (ok_is_fields T) hr rfl T.g_is_fields T.F_is_fields.kp T.b_is_fields .nil passL (pa_cons (pv 0) (pa_cons (pe_dget (hu_of hr) (pv 1) pe_str (fun _ _ => rfl)) (pa_cons (pe_dget (hu_of hr) (pv 1) pe_str (fun _ _ => rfl)) pa_nil)))))) (pss_one (ps_ret pe_str)) pss_nil)
    (pss_cons (ps_if (pt_not (pt_val (pe_call (ok_is_limit T) (hr.mono (by decide)) rfl T.g_is_limit T.F_is_limit.kp T.b_is_limit .nil passL (pa_cons (pe_dget (hu_of hr) (pv 1) pe_str (fun _ _ => rfl)) pa_nil)))) (pss_one (ps_ret pe_str)) pss_nil)
    (pss_cons (ps_if (pt_not (pt_val (pe_callB call_isi (by rfl) T.n_isinstance (by decide +kernel) (pa_cons (pe_dget (hu_of hr) (pv 1) pe_str (fun _ _ => rfl)) (pa_cons (pe_bltn (v := .ty "bool") (by rfl) T.n_bool (by decide +kernel) rfl) pa_nil))))) (pss_one (ps_ret pe_str)) pss_nil)
    (pss_one (ps_ret pe_non)))))))), ?_⟩
  rw [show L2.start ["schema", "parts"] [V.ref S, V.ref d] = [some (V.ref S), some (V.ref d)] from rfl]
  have lst := kindName_len (hok.ok.kn pt.st)
  have lo : w.out.length ≤ 1000 := by
    have h1 := nd_len pt.ond pt.on
    have h2 := own_pairs_len (rows := rows) (k := 4) fun r hr => hok.ok.own_len hr
    have := hok.few
    omega
  have ln : w.anew.length ≤ 1000 := by
    have h1 := nd_len pt.nnd pt.nn
    have h2 := own_pairs_len (rows := rows) (k := 4) fun r hr => hok.ok.own_len hr
    have := hok.few
    omega
  walk_at "w_go"
  refine ⟨S, rows, .str w.start, _, rfl, hS, hok, kn_str lst, fun k H1 s1 hk => ?_⟩
  have hk1 : k = true := hk.mpr ⟨_, rfl, pt.st, pt.un⟩
  subst hk1
  have ed1 := s1 _ _ ed
  walk_at "w_go"
  refine ⟨S, ga, rows, w.gs, gxs, rfl, hS.same s1, hok, pt.gat.same s1, pt.g.mono (fun _ _ z => z.same s1), pt.gn, pt.gnd, fun H2 s2 => ?_⟩
  have s02 := s1.trans s2
  have ed2 := s02 _ _ ed
  walk_at "w_go"
  rename_i qe H3 n3 s3 e3
  have s03 := s02.trans s3
  refine ⟨S, oa, qe, rows, w.out, [], oxs, [], rfl, hS.same s03, hok, pt.oat.same s03, all2_pairs pt.o (tx_same s03), .inr (.of e3), .nil, fun x hx => owns_pair hok (pt.on x hx), pt.ond, fun x _ z => by simp at z, lo, by simp, fun H4 s4 => ?_⟩
  have s04 := s03.trans s4
  have ed4 := s04 _ _ ed
  walk_at "w_go"
  refine ⟨S, na, oa, rows, w.anew, w.out, nxs, oxs, rfl, hS.same s04, hok, pt.nat.same s04, all2_pairs pt.n (tx_same s04), pt.oat.same s04, all2_pairs pt.o (tx_same s04), fun x hx => owns_pair hok (pt.nn x hx), pt.nnd, pt.dis, ln, lo, fun H5 s5 => ?_⟩
  have s05 := s04.trans s5
  have ed5 := s05 _ _ ed
  walk_at "w_go"
  refine ⟨w.lim, rfl, pt.lim, ?_⟩
  walk_at "w_go"
  refine r_isi (.base (.bl _)) rfl ?_
  walk_at "w_go"
  exact q _ s05
end
end Wm
namespace Wm
open PySem L2
open PySem.W (Datum)

section
variable {P : Program} {w : World} {K : PySem.W.Frag} {mg : Str → Option Value} {base : Heap} {ad : Ad}
theorem ok_guards_in_order (T : Txt P K mg ad) : FnOk P w K mg base (L2.CX P w) 2 ad.guards_in_order ad.fd_guards_in_order ["schema", "pairs"] (spGOrder K ad.Kind ad.Schema ad.Guard) := by
  refine T.F_guards_in_order.okX sc_guards_in_order (fun vs H Q E h => ?_) (fun cdv A outer s H vs Q E hr h => ?_)
  · obtain ⟨S, a, rows, gs, xs, rfl, _⟩ := h
    rfl
  obtain ⟨S, a, rows, gs, xs, rfl, hS, hok, hxs, hg, hnd, hgl, q⟩ := h
  refine ⟨_, (pss_cons (ps_set (i := 2) sc_guards_in_order.nd rfl (Or.inr rfl) (pe_dc (own := [("kind", 3), ("guard", 4)]) (g := (gTup K 2 (gCons (gName 3) (gCons (gName 4) gNil)))) (tt := tYes) rfl sc_guards_in_order.nd (pi_or (pi_list (pv 1)) (pi_tup (pv 1))) (blkOk_by (own := [("kind", 3), ("guard", 4)]) (N := ["schema", "pairs", "found", "kind", "guard", "name"]) (sc := defScope s_guards_in_order) (by decide +kernel)) (fun _ _ _ _ _ => (pg_tup rfl (pgs_cons (pg_name (i := 3) sc_guards_in_order.nd rfl (Or.inl rfl)) (pgs_cons (pg_name (i := 4) sc_guards_in_order.nd rfl (Or.inl rfl)) pgs_nil)))) (fun _ _ _ _ _ => pts_nil) (fun _ _ _ _ _ => (pv 3)) (fun _ _ _ _ _ => (pv 4))))
    (pss_one (ps_ret (pe_callTy (c_tupleF : CallR _ (.type "tuple") (rTupF K)) (by rfl) T.n_tuple (by decide +kernel) (pa_cons (pe_lc (own := [("name", 5)]) (g := gName 5) rfl sc_guards_in_order.nd (pi_tup (pe_fld (pv 0) rfl)) (blkOk_by (own := [("name", 5)]) (N := ["schema", "pairs", "found", "kind", "guard", "name"]) (sc := defScope s_guards_in_order) (by decide +kernel)) (fun _ _ _ _ _ => pg_name (i := 5) sc_guards_in_order.nd rfl (Or.inl rfl)) (fun _ _ _ _ _ => (pts_one (pt_cmp (pc_din (hu_of hr) (pv 5) (pv 2))))) (fun _ _ _ _ _ => (pe_tup (pa_cons (pv 5) (pa_cons (pe_dget (hu_of hr) (pv 2) (pv 5) (fun _ _ => rfl)) pa_nil))))) pa_nil))))), ?_⟩
  rw [show L2.start ["schema", "pairs", "found", "kind", "guard", "name"] [V.ref S, V.ref a] = [some (V.ref S), some (V.ref a), none, none, none, none] from rfl]
  have cl := T.ow_Schema.cl
  have f2 := T.no_Schema_names
  have hlen := hg.len
  walk_at "w_go"
  refine r_iA rfl hxs.sqa (fun J G wJ hG => ?_)
  refine r_dcW wJ gs hlen (·.1) (fun x v H' => GuAt ad.Guard H' x.2 v) hnd (fun _ _ _ _ h hh => by
    obtain ⟨ga, gdx, e1, e2⟩ := h
    exact ⟨ga, gdx, e1, hh _ _ e2⟩) hG (by rw [PySem.sizeLine_eq]; omega) (fun D j x y Hi Hj kvs N Kf hD ha sI eD yy kN => ?_) (fun qd kvs H1 n1 s1 e1 hk1 => ?_)
  · obtain ⟨rfl, hx⟩ := yy
    obtain ⟨y', hy', hra⟩ := hg.left ha
    rw [hx] at hy'
    cases hy'
    obtain ⟨t, gv, rfl, et, hgu⟩ := hra
    obtain ⟨ga, gdx, rfl, eg⟩ := hgu
    generalize hw : wipe [some (V.ref S), some (V.ref a), none, none, none, none] _ = σ0
    have hw2 : σ0 = [some (V.ref S), some (V.ref a), none, none, none, none] := hw.symm.trans rfl
    clear hw
    subst hw2
    refine r_gtupK (sI _ _ et) rfl ?_
    walk_at "w_go"
    refine ⟨rfl, ?_⟩
    walk_at "w_go"
    have ngD : ga ≠ D := ne_of_none eg hD
    exact kN _ _ (Same.refl _) ⟨ga, gdx, rfl, hid_at ngD (sI _ _ eg)⟩
  · obtain ⟨dx, rv, nv, dv, rvs, skvs, hin⟩ := hS.same s1
    have eS := hin.at_
    have eN := hin.nms
    have hfew := hok.few
    walk_at "w_go"
    refine r_itK (.of eN) ?_
    refine r_lcW walk_tup (names rows) (by rw [List.length_map]) (fun n => (gs.find? fun x => x.1 == n).isSome) (fun n y H' => ∃ x, gs.find? (fun x => x.1 == n) = some x ∧ GRowAt ad.Guard H' x y) (fun _ _ _ _ h hh => by
      obtain ⟨x, e1, t, gv, e2, e3, ga, gdx, e4, e5⟩ := h
      exact ⟨x, e1, t, gv, e2, hh _ _ e3, ga, gdx, e4, hh _ _ e5⟩) (fun _ s => .of (s _ _ eN)) (by rw [PySem.sizeLine_eq, List.length_map]; unfold names; rw [List.length_map]; omega) (fun D j n y Hi Hj acc Kt Kf hD ha sI eD yy kt kf => ?_) (fun q2 ys H2 n2 s2 e2 hr2 => ?_)
    · obtain ⟨rfl, hx⟩ := yy
      rw [List.getElem?_map, ha] at hx
      cases hx
      obtain ⟨l1, l2⟩ := look_gs (R := fun x v => GuAt ad.Guard H1 x.2 v) (n := n) hk1
      have ed := sI _ _ e1
      refine ⟨wipe_set1, ?_⟩
      walk_at "w_go"
      cases hf : gs.find? (fun x => x.1 == n) with
      | none =>
        refine r_dInN ed (l2 hf) ?_
        walk_at "w_go"
        exact kf (by rw [hf] <;> rfl) _ (Same.refl _)
      | some x =>
        obtain ⟨v, hv, hgu⟩ := l1 x hf
        refine r_dInS ed hv ?_
        walk_at "w_go"
        refine r_dgetK ed hv ?_
        walk_at "w_go"
        rename_i q5 H5 n5 s5 e5
        obtain ⟨ga, gdx, rfl, eg⟩ := hgu
        have egj := sI _ _ eg
        have n5D : q5 ≠ D := fun z => by
          rw [z, eD] at n5
          cases n5
        have egD : ga ≠ D := fun z => by
          rw [z, hD] at eg
          cases eg
        refine kt (by rw [hf] <;> rfl) _ _ s5 ⟨x, hf, q5, _, rfl, hid_at n5D ?_, ga, gdx, rfl, hid_at egD (s5 _ _ egj)⟩
        rw [e5]
        have hxn : x.1 = n := by simpa using List.find?_some hf
        rw [hxn]
    · walk_at "w_go"
      refine ⟨q2, ys, rfl, .of e2, fun q3 H3 n3 s3 fr3 => ?_⟩
      refine q q3 ys _ ((s1.trans s2).trans s3) (s1.free (s2.free n3)) fr3 ?_
      refine all2_fm (f := fun n => gs.find? fun x => x.1 == n) ?_
      exact hr2.mono fun n y z => by
        obtain ⟨x, e1, z⟩ := z
        exact ⟨x, e1, z.same s3⟩
theorem ok_fields_in_order (T : Txt P K mg ad) : FnOk P w K mg base (L2.CX P w) 6 ad.fields_in_order ad.fd_fields_in_order ["schema", "pairs"] (spPOrder K ad.Kind ad.Schema) := by
  refine T.F_fields_in_order.okX sc_fields_in_order (fun vs H Q E h => ?_) (fun cdv A outer s H vs Q E hr h => ?_)
  · obtain ⟨S, a, rows, l, xs, rfl, _⟩ := h
    rfl
  obtain ⟨S, a, rows, l, xs, rfl, hS, hok, hxs, hl, q⟩ := h
  refine ⟨_, (pss_cons (ps_set (i := 2) sc_fields_in_order.nd rfl (Or.inl rfl) (pe_lst pa_nil))
    (pss_cons (ps_for (passes_of rfl) rfl (pi_tup (pe_fld (pv 0) rfl)) (pg_name (i := 3) sc_fields_in_order.nd rfl (Or.inl rfl)) (pss_one (ps_for (passes_of rfl) rfl (pi_tup (pe_fld (pe_ixOwn (ok_Schema_getitem T) hr T.me_Schema_getitem (fun_in T.F_Schema_getitem) T.b_Schema_getitem passL (pv 0) (pv 3) (fun _ _ => rfl)) rfl)) (pg_tup rfl (pgs_cons (pg_name (i := 4) sc_fields_in_order.nd rfl (Or.inl rfl)) (pgs_cons (pg_name (i := 5) sc_fields_in_order.nd rfl (Or.inl rfl)) (pgs_cons (pg_name (i := 6) sc_fields_in_order.nd rfl (Or.inl rfl)) pgs_nil)))) (pss_one (ps_if (pt_cmpR (op_inP hr.units) (pe_tup (pa_cons (pv 3) (pa_cons (pv 4) pa_nil))) (pv 1) (by rfl)) (pss_one (ps_expr (pe_bm PySem.F.plainAttrs_list PySem.F.slot_list_append PySem.F.type_list_append mt_append (pv 2) (pa_cons (pe_tup (pa_cons (pv 3) (pa_cons (pv 4) pa_nil))) pa_nil)))) pss_nil)))))
    (pss_one (ps_ret (pe_callTy c_tuple (by rfl) T.n_tuple (by decide +kernel) (pa_cons (pv 2) pa_nil)))))), ?_⟩
  rw [show L2.start ["schema", "pairs", "found", "owner", "name", "mode", "target"] [V.ref S, V.ref a] = [some (V.ref S), some (V.ref a), none, none, none, none, none] from rfl]
  have cl := T.ow_Schema.cl
  have f2 := T.no_Schema_names
  have clK := T.ow_Kind.cl
  have f1 := T.no_Kind_own
  walk_at "w_go"
  rename_i qf H1 n1 s1 e1
  have n1' : H qf = none := n1
  obtain ⟨dx, rv, nv, dv, rvs, skvs, hin⟩ := id hS
  have eS1 := s1 _ _ hin.at_
  have hfew := hok.few
  walk_at "w_go"
  refine r_itK (.of (s1 _ _ hin.nms)) (for_tup (K := K) (a := nv) (xs := (names rows).map V.str) (fun i σ H' => ∃ (x3 x4 x5 x6 : Option V) (fvs : List V), σ = [some (.ref S), some (.ref a), some (.ref qf), x3, x4, x5, x6] ∧ Same H H' ∧ H' qf = some (.lst fvs) ∧ All2 (PairAt H') ((ownPairs (rows.take i)).filter fun x => decide (x ∈ l)) fvs) ⟨_, _, _, _, [], rfl, s1, e1, .nil⟩ ?_ ?_ ?_)
  · rintro i σ H' _ ⟨x3, x4, x5, x6, fvs, rfl, s, _⟩
    exact .of (s _ _ hin.nms)
  · rintro i x σ H' hi ⟨x3, x4, x5, x6, fvs, rfl, s, ef, hf⟩
    obtain ⟨n, rfl, hni⟩ := str_ix hi
    have hn := List.mem_of_getElem? hni
    have lnm := kindName_len (hok.ok.kn hn)
    have hSs := hS.same s
    have eSs := s _ _ hin.at_
    have hri : ∃ r, rows[i]? = some r ∧ r.name = n := by
      unfold names at hni
      rw [List.getElem?_map] at hni
      cases e : rows[i]? with
      | none => rw [e] at hni; cases hni
      | some r => rw [e] at hni; exact ⟨r, rfl, Option.some.inj hni⟩
    obtain ⟨r, hri, rfl⟩ := hri
    walk_at "w_go"
    refine r_ixOwn eSs ⟨S, rows, .str r.name, _, rfl, hSs, hok, kn_str lnm, fun r1 kv H2 hv hr1 s2 k2 => ?_, fun z => absurd hn (z _ rfl)⟩
    cases row_uniq hok.ok.nd (List.mem_of_getElem? hri) hr1 (V.str.inj hv)
    obtain ⟨a1, kdx, bv, ov, la, fa, fvs', rfl, kin⟩ := k2
    have g1 := kin.at_
    obtain ⟨oa, ovs, rfl, eo, ovr⟩ := kin.own
    have s02 := s.trans s2
    have ef2 := s2 _ _ ef
    have hf2 := all2_pairs hf (tx_same s2)
    have hop := own_pairs_len (rows := rows.take i) (k := 4) fun r hr => hok.ok.own_len (List.mem_of_mem_take hr)
    have hlt : (rows.take i).length ≤ 6 := by rw [List.length_take]; omega
    have hol := hok.ok.own_len hr1
    walk_at "w_go"
    refine r_itK (.of eo) (for_tup (K := K) (a := oa) (xs := ovs) (fun j σ H' => ∃ (x4 x5 x6 : Option V) (fvs : List V), σ = [some (.ref S), some (.ref a), some (.ref qf), some (.str r.name), x4, x5, x6] ∧ Tx H2 H' ∧ Same H H' ∧ H' qf = some (.lst fvs) ∧ All2 (PairAt H') ((ownPairs (rows.take i) ++ (r.own.take j).map fun f => (r.name, f.1)).filter fun x => decide (x ∈ l)) fvs) ⟨_, _, _, fvs, rfl, Tx.refl _, s02, ef2, by simpa using hf2⟩ ?_ ?_ ?_)
    · rintro j σ H' _ ⟨x4, x5, x6, fvs, rfl, tt, _⟩
      exact .of (tt _ _ eo)
    · rintro j x σ H3 hj ⟨x4, x5, x6, fvs, rfl, tt, s3, ef3, hf3⟩
      obtain ⟨f, hfj, hfa⟩ := ovr.right hj
      obtain ⟨ga, rfl, eg⟩ := hfa.tx tt
      have htj : (r.own.take (j + 1)).map (fun f => (r.name, f.1)) = (r.own.take j).map (fun f => (r.name, f.1)) ++ [(r.name, f.1)] := by
        rw [take_more hfj, List.map_append] <;> rfl
      have hfl := hf3.len
      have hfl2 := List.length_filter_le (fun x => decide (x ∈ l)) (ownPairs (rows.take i) ++ (r.own.take j).map fun f => (r.name, f.1))
      rw [List.length_append, List.length_map, List.length_take] at hfl2
      refine r_gtupK eg rfl ?_
      walk_at "w_go"
      rename_i qp H4 n4 s4 e4
      have s34 := s3.trans s4
      refine ⟨a, xs, Datum.toD (r.name, f.1), l.map Datum.toD, rfl, (hxs.same s34).sqa, .tup (.of e4) (.cons (.str _) (.cons (.str _) .nil)), dps_pairs (all2_pairs hl (tx_same s34)), Datum.plain (r.name, f.1), plainAll_typed _, Nat.le_trans (Datum.depth_le (r.name, f.1)) (by decide), ?_⟩
      rw [if_neg (by simp), dataIn_typed]
      have ef4 := s4 _ _ ef3
      have hf4 := all2_pairs hf3 (tx_same s4)
      have t4 := tt.trans (tx_same s4)
      walk_at "w_go"
      by_cases hm : (r.name, f.1) ∈ l
      · refine iteT' (by simp [hm]) ?_
        walk_at "w_go"
        rename_i qp5 H5 n5 s5 e5
        have ef5 := s5 _ _ ef4
        have tl : Tx H5 (upd H5 qf (.lst (fvs ++ [V.ref qp5]))) := tx_lst ef5
        refine ⟨_, _, _, _, rfl, (t4.trans (tx_same s5)).trans tl, same_put (s34.trans s5) n1', upd_same, ?_⟩
        rw [htj, ← List.append_assoc, List.filter_append, show [(r.name, f.1)].filter (fun x => decide (x ∈ l)) = [(r.name, f.1)] from by simp [hm]]
        exact (all2_pairs (all2_pairs hf4 (tx_same s5)) tl).snoc ⟨qp5, rfl, tl _ _ e5⟩
      · refine iteF' (by simp [hm]) ?_
        walk_at "w_go"
        refine ⟨_, _, _, _, rfl, t4, s34, ef4, ?_⟩
        rw [htj, ← List.append_assoc, List.filter_append, show [(r.name, f.1)].filter (fun x => decide (x ∈ l)) = [] from by simp [hm], List.append_nil]
        exact hf4
    · rintro σ H3 ⟨x4, x5, x6, fvs, rfl, tt, s3, ef3, hf3⟩
      rw [← ovr.len, List.take_length] at hf3
      refine ⟨_, _, _, _, _, rfl, s3, ef3, ?_⟩
      rw [take_more hri, own_pairs_snoc]
      exact hf3
  · rintro σ H' ⟨x3, x4, x5, x6, fvs, rfl, s, ef, hf⟩
    rw [List.length_map, show (names rows).length = rows.length from by unfold names; rw [List.length_map], List.take_length] at hf
    walk_at "w_go"
    refine r_tupL (.of ef) (fun q3 n3 => ?_)
    have s3 := same_new (o := .tup fvs) n3
    exact q q3 fvs _ (s.trans s3) (s.free n3) upd_same (all2_pairs hf (tx_same s3))
end
end Wm
namespace Wm
open PySem L2
open PySem.W (Datum)

section
variable {P : Program} {w : World} {K : PySem.W.Frag} {mg : Str → Option Value} {base : Heap} {ad : Ad}
theorem ok_Walker_init (T : Txt P K mg ad) : FnOk P w K mg base (L2.CX P w) 9 ad.Walker_init ad.fd_Walker_init ["self", "schema", "start", "guards", "out", "anew", "limit", "frees"] (spWInit K ad.Kind ad.Schema ad.Guard ad.Walker) := by
  refine T.F_Walker_init.ok sc_Walker_init (fun vs H Q E h => ?_) (fun cdv A outer s H vs Q E hr h => ?_)
  · obtain ⟨a, dx, S, rows, w, ga, oa, na, gxs, oxs, nxs, rfl, _⟩ := h
    rfl
  obtain ⟨a, dx, S, rows, w, ga, oa, na, gxs, oxs, nxs, rfl, ea, hS, hok, pt, q⟩ := h
  refine ⟨_, (pss_cons (ps_set (i := 8) sc_Walker_init.nd rfl (Or.inl rfl) (pe_disp (pps_cons pe_str (pv 2) (pps_cons pe_str (pv 3) (pps_cons pe_str (pv 4) (pps_cons pe_str (pv 5) (pps_cons pe_str (pv 6) (pps_cons pe_str (pv 7) pps_nil)))))) (by rfl) (by rfl) (fun z => by cases z) (by decide)))
    (pss_cons (ps_set (i := 9) sc_Walker_init.nd rfl (Or.inl rfl) (pe_call (ok_wrong_part T) hr rfl T.g_wrong_part T.F_wrong_part.kp T.b_wrong_part .nil passL (pa_cons (pv 1) (pa_cons (pv 8) pa_nil))))
    (pss_cons (ps_if (pt_cmpR op_notNn (pv 9) pe_non (nomark _)) (pss_one (ps_raiseEr rfl T.er_BadWalker hr (takes_of rfl rfl rfl rfl) T.g_BadWalker (pa_cons (pv 9) pa_nil))) pss_nil)
    (pss_cons (ps_fld (pv 0) (pv 1) rfl)
    (pss_cons (ps_fld (pv 0) (pv 2) rfl)
    (pss_cons (ps_fld (pv 0) (pe_call (ok_guards_in_order T) (hr.mono (by decide)) rfl T.g_guards_in_order T.F_guards_in_order.kp T.b_guards_in_order .nil passL (pa_cons (pv 1) (pa_cons (pv 3) pa_nil))) rfl)
    (pss_cons (ps_fld (pv 0) (pe_call (ok_fields_in_order T) (hr.mono (by decide)) rfl T.g_fields_in_order T.F_fields_in_order.kp T.b_fields_in_order .nil passL (pa_cons (pv 1) (pa_cons (pv 4) pa_nil))) rfl)
    (pss_cons (ps_fld (pv 0) (pe_call (ok_fields_in_order T) (hr.mono (by decide)) rfl T.g_fields_in_order T.F_fields_in_order.kp T.b_fields_in_order .nil passL (pa_cons (pv 1) (pa_cons (pv 5) pa_nil))) rfl)
    (pss_cons (ps_fld (pv 0) (pv 6) rfl)
    (pss_one (ps_fld (pv 0) (pv 7) rfl))))))))))), ?_⟩
  rw [show L2.start ["self", "schema", "start", "guards", "out", "anew", "limit", "frees", "parts", "wrong"] [V.ref a, V.ref S, V.str w.start, V.ref ga, V.ref oa, V.ref na, limV w.lim, V.bl w.frees] = [some (V.ref a), some (V.ref S), some (V.str w.start), some (V.ref ga), some (V.ref oa), some (V.ref na), some (limV w.lim), some (V.bl w.frees), none, none] from rfl]
  have cl := T.ow_Walker.cl
  have f1 := T.no_Walker_schema
  have f2 := T.no_Walker_start
  have f3 := T.no_Walker_guards
  have f4 := T.no_Walker_out
  have f5 := T.no_Walker_anew
  have f6 := T.no_Walker_limit
  have f7 := T.no_Walker_frees
  have hgl : w.gs.length ≤ 6 := by
    have h1 := nd_len pt.gnd (fun x hx => (by
      obtain ⟨y, hy, rfl⟩ := List.mem_map.mp hx
      exact pt.gn y hy : x ∈ names rows))
    have h2 := hok.few
    unfold names at h1
    simp only [List.length_map] at h1
    omega
  walk_at "w_go"
  rename_i d H1 n1 s1 e1
  have nd : H d = none := n1
  refine r_dispE (pkvs (.str w.start) (.ref ga) (.ref oa) (.ref na) (limV w.lim) w.frees) (pkvs (.str w.start) (.ref ga) (.ref oa) (.ref na) (limV w.lim) w.frees) e1 rfl (by simp [pkvs]) (by rfl) ?_
  generalize hH2 : upd H1 d _ = H2
  have s2 : Same H H2 := by
    rw [← hH2]
    exact same_put s1 nd
  have e2 : H2 d = some (.dK (pkvs (.str w.start) (.ref ga) (.ref oa) (.ref na) (limV w.lim) w.frees)) := by
    rw [← hH2]
    exact upd_same
  clear hH2 s1 e1 n1
  walk_at "w_go"
  refine ⟨S, d, rows, w, ga, oa, na, gxs, oxs, nxs, rfl, hS.same s2, hok, e2, pt.same s2, fun H3 s3 => ?_⟩
  have s03 := s2.trans s3
  walk_at "w_go"
  generalize hH4 : upd (upd H3 a _) a _ = H4
  have b4 : But a H H4 := by
    rw [← hH4]
    exact (((But.refl a H).same s03).self).self
  have e4 : H4 a = some (.ins ad.Walker dx [("schema", .ref S), ("start", .str w.start)]) := by
    rw [← hH4]
    exact upd_same
  clear hH4 s03 s3 e2 s2
  refine ⟨S, ga, rows, w.gs, gxs, rfl, hS.butI ea b4, hok, pt.gat.butI ea b4, pt.g.mono (fun _ _ z => z.butI ea b4), pt.gnd, hgl, fun gt gvs H5 s5 n5 e5 g5 => ?_⟩
  have ea5 := s5 _ _ e4
  have b5 := b4.same s5
  walk_at "w_go"
  generalize hH6 : upd H5 a _ = H6
  have b6 : But a H H6 := by
    rw [← hH6]
    exact b5.self
  have e6 : H6 a = some (.ins ad.Walker dx [("schema", .ref S), ("start", .str w.start), ("guards", .ref gt)]) := by
    rw [← hH6]
    exact upd_same
  have eg6 : Frt H6 gt gvs := by
    rw [← hH6]
    exact e5.put ea5
  have g6 : All2 (GRowAt ad.Guard H6) (sortG rows w.gs) gvs := by
    rw [← hH6]
    exact g5.mono fun _ _ z => gu_put z ea5 ⟨_, _, rfl⟩
  clear hH6 b4 e4 ea5 b5 s5 n5 e5 g5
  refine ⟨S, oa, rows, w.out, oxs, rfl, hS.butI ea b6, hok, pt.oat.butI ea b6, all2_pairs pt.o (b6.txI ea), fun ot ovs H7 s7 n7 e7 o7 => ?_⟩
  have ea7 := s7 _ _ e6
  have b7 := b6.same s7
  have eg7 := eg6.same s7
  have g7 := g6.mono fun _ _ z => z.same s7
  walk_at "w_go"
  generalize hH8 : upd H7 a _ = H8
  have t8 : Tx H7 H8 := by
    rw [← hH8]
    exact tx_put fun xs z => by rw [ea7] at z; cases z
  have b8 : But a H H8 := by
    rw [← hH8]
    exact b7.self
  have e8 : H8 a = some (.ins ad.Walker dx [("schema", .ref S), ("start", .str w.start), ("guards", .ref gt), ("out", .ref ot)]) := by
    rw [← hH8]
    exact upd_same
  have eg8 : Frt H8 gt gvs := by
    rw [← hH8]
    exact eg7.put ea7
  have g8 : All2 (GRowAt ad.Guard H8) (sortG rows w.gs) gvs := by
    rw [← hH8]
    exact g7.mono fun _ _ z => gu_put z ea7 ⟨_, _, rfl⟩
  have eo8 := t8 _ _ e7
  have o8 := all2_pairs o7 t8
  clear hH8 b6 e6 ea7 b7 s7 n7 e7 o7 g7 g6 eg7 eg6 t8
  refine ⟨S, na, rows, w.anew, nxs, rfl, hS.butI ea b8, hok, pt.nat.butI ea b8, all2_pairs pt.n (b8.txI ea), fun nt nvs H9 s9 n9 e9 p9 => ?_⟩
  have ea9 := s9 _ _ e8
  have b9 := b8.same s9
  have eg9 := eg8.same s9
  have eo9 := s9 _ _ eo8
  have g9 := g8.mono fun _ _ z => z.same s9
  have o9 := all2_pairs o8 (tx_same s9)
  walk_at "w_go"
  generalize hHe : upd (upd (upd H9 a _) a _) a _ = He
  have te : Tx H9 He := by
    rw [← hHe]
    refine ((tx_put fun xs z => by rw [ea9] at z; cases z).trans (tx_put fun xs z => by rw [upd_same] at z; cases z)).trans (tx_put fun xs z => by rw [upd_same] at z; cases z)
  have be : But a H He := by
    rw [← hHe]
    exact b9.self.self.self
  have ee : He a = some (.ins ad.Walker dx (wfs S w.start gt ot nt (limV w.lim) w.frees)) := by
    rw [← hHe]
    exact upd_same
  have ege : Frt He gt gvs := by
    rw [← hHe]
    exact ((eg9.put ea9).put upd_same).put upd_same
  have ge : All2 (GRowAt ad.Guard He) (sortG rows w.gs) gvs := by
    rw [← hHe]
    exact g9.mono fun _ _ z => gu_put (gu_put (gu_put z ea9 ⟨_, _, rfl⟩) upd_same ⟨_, _, rfl⟩) upd_same ⟨_, _, rfl⟩
  exact q He be ⟨dx, gt, ot, nt, gvs, ovs, nvs, ee, ege, ge, te _ _ eo9, all2_pairs o9 te, te _ _ e9, all2_pairs p9 te⟩
end
end Wm
namespace Wm
open PySem L2
open PySem.W (Datum)

section
variable {P : Program} {w : World} {K : PySem.W.Frag} {mg : Str → Option Value} {base : Heap} {ad : Ad}
theorem ok_l_walker_made (T : Txt P K mg ad) : FnOk P w K mg base (L2.CX P w) 11 ad.l_walker_made ad.fd_l_walker_made ["_law_schema", "_law_walker_here"] (spWMade ad.Kind ad.Schema ad.Guard ad.Walker) := by
  refine T.F_l_walker_made.okX sc_l_walker_made (fun vs H Q E h => ?_) (fun cdv A outer s H vs Q E hr h => ?_)
  · obtain ⟨S, W, p, rows, w, rfl, _⟩ := h
    rfl
  obtain ⟨S, W, p, rows, w, rfl, hS, hok, ⟨gd, ol, al, gvs, ovs, avs, iw, _, _, nWg⟩, hw, q⟩ := h
  obtain ⟨gW, hbW⟩ := kb_wk T.F_Walker_init
  refine ⟨_, (pss_cons (ps_lock (ps_setLc (i := 2) (own := [("_law_kind", 3), ("_law_plain", 4)]) (g := (gTup K 2 (gCons (gName 3) (gCons (gName 4) gNil)))) (tt := tYes) rfl sc_l_walker_made.nd rfl rfl (sw_true rfl rfl rfl (by decide +kernel)) (pi_items (pe_dget (hu_of hr) (pv 1) pe_str (fun _ _ => rfl))) (blkOk_by (own := [("_law_kind", 3), ("_law_plain", 4)]) (N := ["_law_schema", "_law_walker_here", "_law_guard_rows", "_law_kind", "_law_plain"]) (sc := defScope s_l_walker_made) (by decide +kernel)) (fun _ _ _ _ _ => pg_tup rfl (pgs_cons (pg_name (i := 3) sc_l_walker_made.nd rfl (Or.inl rfl)) (pgs_cons (pg_name (i := 4) sc_l_walker_made.nd rfl (Or.inl rfl)) pgs_nil))) (fun _ _ _ _ _ => pts_nil) (fun _ _ _ _ _ => (pe_tup (pa_cons (pv 3) (pa_cons (pe_call (ok_l_guard_made T) (hr.mono (by decide)) rfl T.g_l_guard_made T.F_l_guard_made.kp T.b_l_guard_made .nil passL (pa_cons (pv 4) pa_nil)) pa_nil))))))
    (pss_one (ps_ret (pe_makeK T.mk_Walker (ok_Walker_init T) hr rfl T.g_Walker hbW passL (pa_cons (pv 0) (pa_cons (pe_dget (hu_of hr) (pv 1) pe_str (fun _ _ => rfl)) pa_nil)) (pk_cons (pv 2) (pk_cons (pe_callTy c_list (by rfl) T.n_list (by decide +kernel) (pa_cons (pe_dget (hu_of hr) (pv 1) pe_str (fun _ _ => rfl)) pa_nil)) (pk_cons (pe_callTy c_list (by rfl) T.n_list (by decide +kernel) (pa_cons (pe_dget (hu_of hr) (pv 1) pe_str (fun _ _ => rfl)) pa_nil)) (pk_cons (pe_dget (hu_of hr) (pv 1) pe_str (fun _ _ => rfl)) (pk_cons (pe_dget (hu_of hr) (pv 1) pe_str (fun _ _ => rfl)) pk_nil))))))))), ?_⟩
  rw [show L2.start ["_law_schema", "_law_walker_here", "_law_guard_rows", "_law_kind", "_law_plain"] [V.ref S, V.ref W] = [some (V.ref S), some (V.ref W), none, none, none] from rfl]
  have eW := iw.at_
  have hgl : w.gs.length ≤ 6 := by
    have h1 := hw.gs.length_le
    have h2 := hok.few
    unfold names at h1
    simp only [List.length_map] at h1
    omega
  have glen := iw.g.len
  refine r_seq ?_
  refine r_lockS iw.gat (fun od => ?_)
  have efz : (upd H gd (.frz od (.dK gvs))) gd = some (.frz od (.dK gvs)) := upd_same
  have eWz : (upd H gd (.frz od (.dK gvs))) W = _ := (upd_ne nWg).trans eW
  walk_at "w_go"
  refine r_iItems ?_
  walk_at "w_go"
  refine ⟨gd, od, gvs, rfl, efz, ?_⟩
  refine r_lcW walk_items w.gs glen (fun _ => true) (fun x y H' => GRowAt ad.Guard H' x y) (fun _ _ _ _ h hh => by
    obtain ⟨t, gv, e2, e3, ga, gdx, e4, e5⟩ := h
    exact ⟨t, gv, e2, hh _ _ e3, ga, gdx, e4, hh _ _ e5⟩) (fun _ s => s _ _ efz) (by rw [PySem.sizeLine_eq]; omega) (fun D j x y Hi Hj acc Kt Kf hD ha sI eD yy kt kf => ?_) (fun qc ys H1 n1 s1 e1 hr1 => ?_)
  · obtain ⟨Tp, x1, y1, rfl, nT, rfl, ex, ey⟩ := yy
    obtain ⟨kv, hkv, hk1, hk2⟩ := iw.g.left ha
    have ex2 : gvs[j]?.map (fun kv => kV kv.1) = some x1 := ex
    have ey2 : gvs[j]?.map Prod.snd = some y1 := ey
    rw [hkv] at ex2 ey2
    cases ex2
    cases ey2
    clear ex ey
    obtain ⟨qg, e5, eg5⟩ := hk2
    have sT : Same Hi (upd Hi Tp (.tup [kV kv.1, kv.2])) := same_new nT
    have eT : (upd Hi Tp (.tup [kV kv.1, kv.2])) Tp = some (.tup [kV kv.1, kv.2]) := upd_same
    generalize upd Hi Tp (.tup [kV kv.1, kv.2]) = Hj at sT eT
    rw [hk1, e5] at eT
    have hgd : qg ≠ gd := fun z => by rw [z, iw.gat] at eg5; cases eg5
    have egz : (upd H gd (.frz od (.dK gvs))) qg = some (.tup (x.2.l.map V.str)) := (upd_ne hgd).trans eg5
    have egj := sT _ _ (sI _ _ egz)
    have eDj := sT _ _ eD
    have ok5 := hw.g5 x (List.mem_of_getElem? ha)
    generalize hwp : wipe [some (V.ref S), some (V.ref W), none, none, none] _ = σ0
    have hw2 : σ0 = [some (V.ref S), some (V.ref W), none, none, none] := hwp.symm.trans rfl
    clear hwp
    subst hw2
    refine r_gtupK eT rfl ?_
    walk_at "w_go"
    refine ⟨rfl, ?_⟩
    walk_at "w_go"
    refine ⟨.ref qg, x.2, rfl, ⟨qg, rfl, egj⟩, ok5, fun ga H5 s5 n5 g5 => ?_⟩
    obtain ⟨ga', gdx, e6, e7⟩ := g5
    cases e6
    walk_at "w_go"
    rename_i q6 H6 n6 s6 e6
    have n6D : q6 ≠ D := fun z => by
      rw [z, s5 _ _ eDj] at n6
      cases n6
    have ngD : ga ≠ D := fun z => by
      rw [z, eDj] at n5
      cases n5
    exact kt rfl _ _ ((sT.trans s5).trans s6) ⟨q6, _, rfl, hid_at n6D e6, ga, gdx, rfl, hid_at ngD (s6 _ _ e7)⟩
  · have s01 : Same H (upd H1 gd (.dK gvs)) := same_lock iw.gat s1
    have egc : H1 gd = some (.frz od (.dK gvs)) := s1 _ _ efz
    have ngc : qc ≠ gd := fun z => by
      rw [z] at e1
      rw [e1] at egc
      cases egc
    have ec2 : (upd H1 gd (.dK gvs)) qc = some (.lst ys) := (upd_ne ngc).trans e1
    have hr2 : All2 (GRowAt ad.Guard (upd H1 gd (.dK gvs))) w.gs ys := by
      rw [List.filter_eq_self.mpr (fun _ _ => rfl)] at hr1
      refine hr1.mono fun x y z => ?_
      obtain ⟨t, gv, rfl, e2, ga, gdx, rfl, e3⟩ := z
      exact ⟨t, _, rfl, (upd_ne (ne_of e2 egc (by intro z; cases z))).trans e2, ga, gdx, rfl, (upd_ne (ne_of e3 egc (by intro z; cases z))).trans e3⟩
    walk_at "w_go"
    refine ⟨egc, ?_⟩
    generalize upd H1 gd (.dK gvs) = H2 at s01 ec2 hr2 ⊢
    have i2 := iw.same s01
    have eW2 := i2.at_
    have eo2 := i2.oat
    have ea2 := i2.aat
    walk_at "w_go"
    rename_i q1 H3 n3 s3 e3 q2 H4 n4 s4 e4 x dx H5 n5 s5 e5
    have s25 := (s3.trans s4).trans s5
    have s45 := s4.trans s5
    have t := tx_same s25
    have nx : H x = none := by
      cases ec : H x with
      | none => rfl
      | some o =>
        rw [(s01.trans (s3.trans s4)) _ _ ec] at n5
        cases n5
    refine ⟨x, dx, S, rows, w, qc, q1, q2, ys, ovs, avs, rfl, e5, hS.same (s01.trans s25), hok, WkOk.parts hok hw (.inl (s25 _ _ ec2)) (hr2.mono fun _ _ z => z.same s25) (.inl (s45 _ _ e3)) (all2_pairs i2.o t) (.inl (s5 _ _ e4)) (all2_pairs i2.a t), fun H' b wk => ?_⟩
    rw [ord_id hok hw] at wk
    walk_at "w_go"
    exact q x H' (same_but nx ((s01.trans s25)) b) nx wk
end
end Wm
namespace Wm
open PySem L2

section
variable {P : Program} {w : World} {K : PySem.W.Frag} {mg : Str → Option Value} {base : Heap} {ad : Ad}
theorem ok_Schema_eq (T : Txt P K mg ad) : FnOk P w K mg base (L2.CX P w) 2 ad.Schema_eq ad.fd_Schema_eq ["self", "other"] (spSEq ad.Kind ad.Schema) := by
  refine T.F_Schema_eq.okX sc_Schema_eq (fun vs H Q E h => ?_) (fun cdv A outer s H vs Q E hr h => ?_)
  · obtain ⟨S, O, rows, more, rfl, _⟩ := h
    rfl
  obtain ⟨S, O, rows, more, rfl, ⟨dx, rv, nv, dv, rvs, kvs, hin⟩, ⟨dx', rv', nv', dv', rvs', kvs', hin'⟩, q⟩ := h
  refine ⟨_, (pss_one (ps_ret (pe_and (pe_callB call_isi (by rfl) T.n_isinstance (by decide +kernel) (pa_cons (pv 1) (pa_cons (pe_glob (v := .ref ad.Schema) rfl T.g_Schema rfl) pa_nil))) (pe_one (pe_cmpR (op_eqP hr.units) (pe_fld (pv 0) rfl) (pe_fld (pv 1) rfl) (nomark _)))))), ?_⟩
  rw [show L2.start ["self", "other"] [V.ref S, V.ref O] = [some (V.ref S), some (V.ref O)] from rfl]
  have cl := T.ow_Schema.cl
  have f1 := T.no_Schema_rows
  have e1 := hin.at_
  have e2 := hin'.at_
  walk_at "w_go"
  refine r_isiO (T.ow_Schema.ty e2) T.ow_Schema.self ?_
  walk_at "w_go"
  refine r_eqT _ _ (dp_rowsT hin.rws hin.rall) (dp_rowsT hin'.rws hin'.rall) ?_
  simp only [PySem.W.Tup.mk.injEq]
  exact q
end
end Wm
namespace Wm
open PySem L2

section
variable {P : Program} {w : World} {K : PySem.W.Frag} {mg : Str → Option Value} {base : Heap} {ad : Ad}
theorem ok_Guard_eq (T : Txt P K mg ad) : FnOk P w K mg base (L2.CX P w) 2 ad.Guard_eq ad.fd_Guard_eq ["self", "other"] (spEq ad) := by
  refine T.F_Guard_eq.okX sc_Guard_eq (fun vs H Q E h => ?_) (fun cdv A outer s H vs Q E hr h => ?_)
  · obtain ⟨a, dx, m, t, b, k, e, v, rfl, _⟩ := h
    rfl
  obtain ⟨a, dx, m, t, b, k, e, v, rfl, ha, hv⟩ := h
  refine ⟨_, (pss_one (ps_ret (pe_and (pe_callB call_isi (by rfl) T.n_isinstance (by decide +kernel) (pa_cons (pv 1) (pa_cons (pe_glob (v := .ref ad.Guard) rfl T.g_Guard rfl) pa_nil))) (pe_and (pe_cmpR op_eq (pe_fld (pv 0) rfl) (pe_fld (pv 1) rfl) (nomark _)) (pe_and (pe_cmpR op_eq (pe_fld (pv 0) rfl) (pe_fld (pv 1) rfl) (nomark _)) (pe_and (pe_cmpR op_eq (pe_fld (pv 0) rfl) (pe_fld (pv 1) rfl) (nomark _)) (pe_and (pe_cmpR op_eq (pe_fld (pv 0) rfl) (pe_fld (pv 1) rfl) (nomark _)) (pe_one (pe_cmpR op_eq (pe_fld (pv 0) rfl) (pe_fld (pv 1) rfl) (nomark _)))))))))), ?_⟩
  rw [show L2.start ["self", "other"] [V.ref a, v] = [some (V.ref a), some (v)] from rfl]
  have cl := T.ow_Guard.cl
  have f1 := T.no_Guard_mark
  have f2 := T.no_Guard_act
  have f3 := T.no_Guard_by
  have f4 := T.no_Guard_keep
  have f5 := T.no_Guard_keep_by
  rcases hv with ⟨a', dx', m', t', b', k', e', rfl, ha', q⟩ | ⟨hany, q⟩
  · walk_at "w_go"
    refine r_isiO (T.ow_Guard.ty ha') T.ow_Guard.self ?_
    have fin : ∀ {b1 : Bool}, (b1 = decide ([m, t, b, k, e] = [m', t', b', k', e'])) → Q (V.bl b1) H := fun z => z ▸ q
    clear q
    walk_at "w_go"
    walk_at "w_br"
    · walk_at "w_go"
      walk_at "w_br"
      · walk_at "w_go"
        walk_at "w_br"
        · walk_at "w_go"
          walk_at "w_br"
          · walk_at "w_go"
            exact fin (by clear fin; simp only [List.getD_cons_zero, List.getD_cons_succ] at *; simp [*])
          · walk_at "w_go"
            exact fin (by clear fin; simp only [List.getD_cons_zero, List.getD_cons_succ] at *; simp [*])
        · walk_at "w_go"
          exact fin (by clear fin; simp only [List.getD_cons_zero, List.getD_cons_succ] at *; simp [*])
      · walk_at "w_go"
        exact fin (by clear fin; simp only [List.getD_cons_zero, List.getD_cons_succ] at *; simp [*])
    · walk_at "w_go"
      exact fin (by clear fin; simp only [List.getD_cons_zero, List.getD_cons_succ] at *; simp [*])
  · obtain ⟨ty, h1, h2, _⟩ := hany.ty (K := K)
    walk_at "w_go"
    refine r_isiO h1 (T.ow_Guard.base ty h2) ?_
    walk_at "w_go"
    exact q

end
end Wm
namespace Wm
open PySem L2
open PySem.W (Datum)

section
variable {P : Program} {w : World} {K : PySem.W.Frag} {mg : Str → Option Value} {base : Heap} {ad : Ad}
theorem ok_Walker_parts (T : Txt P K mg ad) : FnOk P w K mg base (L2.CX P w) 2 ad.Walker_parts ad.fd_Walker_parts ["self"] (spParts ad.Walker ad.Guard) := by
  refine T.F_Walker_parts.okX sc_Walker_parts (fun vs H Q E h => ?_) (fun cdv A outer s H vs Q E hr h => ?_)
  · obtain ⟨a, S, wk, dx, gt, ot, nt, gvs, ovs, nvs, rfl, _⟩ := h
    rfl
  obtain ⟨a, S, wk, dx, gt, ot, nt, gvs, ovs, nvs, rfl, iw, k⟩ := h
  refine ⟨_, (pss_one (ps_ret (pe_disp (pps_cons pe_str (pe_fld (pv 0) rfl) (pps_cons pe_str (pe_fld (pv 0) rfl) (pps_cons pe_str (pe_fld (pv 0) rfl) (pps_cons pe_str (pe_fld (pv 0) rfl) (pps_cons pe_str (pe_fld (pv 0) rfl) (pps_cons pe_str (pe_fld (pv 0) rfl) pps_nil)))))) (by rfl) (by rfl) (fun z => by cases z) (by decide)))), ?_⟩
  rw [show L2.start ["self"] [V.ref a] = [some (V.ref a)] from rfl]
  have cl := T.ow_Walker.cl
  have f6 := T.no_Walker_frees
  have f5 := T.no_Walker_limit
  have f4 := T.no_Walker_anew
  have f3 := T.no_Walker_out
  have f2 := T.no_Walker_guards
  have f1 := T.no_Walker_start
  have eW := iw.at_
  walk_at "w_go"
  rename_i q H1 n1 s1 e1
  refine r_dispE (pkvs (.str wk.start) (.ref gt) (.ref ot) (.ref nt) (limV wk.lim) wk.frees) (pkvs (.str wk.start) (.ref gt) (.ref ot) (.ref nt) (limV wk.lim) wk.frees) e1 rfl (by simp [pkvs]) (by rfl) ?_
  walk_at "w_go"
  exact k q _ (same_put s1 n1) n1 upd_same
end
end Wm
namespace Wm
open PySem L2
open PySem.W (Datum)

section
variable {P : Program} {w : World} {K : PySem.W.Frag} {mg : Str → Option Value} {base : Heap} {ad : Ad}
theorem ok_Walker_eqB (T : Txt P K mg ad) : FnOk P w K mg base (L2.CX P w) 6 ad.Walker_eq ad.fd_Walker_eq ["self", "other"] (spWEqB ad.Kind ad.Schema ad.Walker ad.Guard) := by
  refine T.F_Walker_eq.okX sc_Walker_eq (fun vs H Q E h => ?_) (fun cdv A outer s H vs Q E hr h => ?_)
  · obtain ⟨a, b, S, S', rows, rows', wk, wk', rfl, _⟩ := h
    rfl
  obtain ⟨a, b, S, S', rows, rows', wk, wk', rfl, hS, hS', ⟨dx, gt, ot, nt, gvs, ovs, nvs, iw⟩, ⟨dx', gt', ot', nt', gvs', ovs', nvs', jw⟩, hab, k⟩ := h
  refine ⟨_, (pss_one (ps_ret (pe_and (pe_callB call_isi (by rfl) T.n_isinstance (by decide +kernel) (pa_cons (pv 1) (pa_cons (pe_glob (v := .ref ad.Walker) rfl T.g_Walker rfl) pa_nil))) (pe_and (pe_cmpR (op_eqOwn (ok_Schema_eq T) (hr.mono (by decide)) T.me_Schema_eq T.b_Schema_eq passL) (pe_fld (pv 0) rfl) (pe_fld (pv 1) rfl) (nomark _)) (pe_one (pe_cmpR (op_eqKB hr.units0) (pe_meth0 (pv 0) T.ow_Walker.cl T.me_Walker_parts (ok_Walker_parts T) (hr.mono (by decide)) T.b_Walker_parts .nil passL) (pe_meth0 (pv 1) T.ow_Walker.cl T.me_Walker_parts (ok_Walker_parts T) (hr.mono (by decide)) T.b_Walker_parts .nil passL) (nomark _))))))), ?_⟩
  rw [show L2.start ["self", "other"] [V.ref a, V.ref b] = [some (V.ref a), some (V.ref b)] from rfl]
  have cl := T.ow_Walker.cl
  have f1 := T.no_Walker_schema
  have eA := iw.at_
  have eB := jw.at_
  walk_at "w_go"
  refine r_isiO (T.ow_Walker.ty eB) T.ow_Walker.self ?_
  walk_at "w_go"
  obtain ⟨sdx, rv, nv, dv, rvs, skvs, hin⟩ := id hS
  obtain ⟨sdx', rv', nv', dv', rvs', skvs', hin'⟩ := id hS'
  have eS := hin.at_
  have eS' := hin'.at_
  refine r_rEqOwn eS (T.ow_Schema.ty eS') T.nfo_Schema ⟨S, S', rows, rows', rfl, hS, hS', ?_⟩
  refine ⟨⟨_, rfl⟩, ?_⟩
  by_cases hrow : rows = rows'
  · rw [show (decide (rows.map rowD = rows'.map rowD)) = true from decide_eq_true (by rw [hrow])]
    walk_at "w_go"
    refine ⟨a, S, wk, dx, gt, ot, nt, gvs, ovs, nvs, rfl, iw, fun p H1 s1 n1 e1 => ?_⟩
    have jw1 : WkrIn ad.Walker ad.Guard H1 S' wk' b dx' gt' ot' nt' gvs' ovs' nvs' := jw.sameW s1
    walk_at "w_go"
    refine ⟨b, S', wk', dx', gt', ot', nt', gvs', ovs', nvs', rfl, jw1, fun q H2 s2 n2 e2 => ?_⟩
    have e12 := s2 _ _ e1
    have npq : p ≠ q := ne_of_none e1 n2
    have iw2 : WkrIn ad.Walker ad.Guard H2 S wk a dx gt ot nt gvs ovs nvs := iw.sameW (s1.trans s2)
    have jw2 : WkrIn ad.Walker ad.Guard H2 S' wk' b dx' gt' ot' nt' gvs' ovs' nvs' := jw1.sameW s2
    walk_at "w_go"
    have hr5 : Room 2 (A.deeper (PyProof.Rows.envOfC (Str.ofString "Walker.__eq__") (defScope s_Walker_eq) s.heap.objs.size ad.Walker_eq cdv)).in1.in1.in1 := hr.in1.in1.in1
    show rEqKB _ (V.ref p) (V.ref q) H2 _
    refine ⟨p, q, _, _, bsK wk wk', decide (wk = wk'), rfl, rfl, npq, e12, e2, rfl, fun oa ob => ?_, ?_, fun H3 s3 => ?_⟩
    · have b1 : But p H2 (upd H2 p (.frz oa (.dK (pkvs (.str wk.start) (.ref gt) (.ref ot) (.ref nt) (limV wk.lim) wk.frees)))) := but_upd
      have e2' : (upd H2 p (.frz oa (.dK (pkvs (.str wk.start) (.ref gt) (.ref ot) (.ref nt) (limV wk.lim) wk.frees)))) q = _ := (upd_ne (Ne.symm npq)).trans e2
      exact vk_partsB (ok_Guard_eq T) cx_no hr5 T.me_Guard_eq T.b_Guard_eq T.ow_Guard T.nfo_Guard ((iw2.butD e12 b1).butD e2' but_upd) ((jw2.butD e12 b1).butD e2' but_upd) (fun z => by
        subst z
        exact gt_inj iw.gat iw.g jw.gat jw.g)
    · rw [decide_eq_true_eq]
      exact bs_all
    · exact k _ H3 (by rw [decide_eq_true_eq]; exact ⟨fun z => ⟨hrow, z⟩, fun z => z.2⟩) ((s1.trans s2).trans s3)
  · rw [show (decide (rows.map rowD = rows'.map rowD)) = false from decide_eq_false fun z => hrow (rowsD_iff.mp z)]
    walk_at "w_go"
    exact k false H ⟨fun z => (by cases z), fun z => absurd z.1 hrow⟩ (Same.refl _)
theorem ok_Walker_eqV (T : Txt P K mg ad) : FnOk P w K mg base (L2.CX P w) 6 ad.Walker_eq ad.fd_Walker_eq ["self", "other"] (spWEqV ad.Walker ad.Guard K) := by
  refine T.F_Walker_eq.okX sc_Walker_eq (fun vs H Q E h => ?_) (fun cdv A outer s H vs Q E hr h => ?_)
  · obtain ⟨a, S, wk, v, tb, rfl, _⟩ := h
    rfl
  obtain ⟨a, S, wk, v, tb, rfl, hW, ty, hk, k⟩ := h
  refine ⟨_, (pss_one (ps_ret (pe_and (pe_callB call_isi (by rfl) T.n_isinstance (by decide +kernel) (pa_cons (pv 1) (pa_cons (pe_glob (v := .ref ad.Walker) rfl T.g_Walker rfl) pa_nil))) (pe_and (pe_cmpR (op_eqOwn (ok_Schema_eq T) (hr.mono (by decide)) T.me_Schema_eq T.b_Schema_eq passL) (pe_fld (pv 0) rfl) (pe_fld (pv 1) rfl) (nomark _)) (pe_one (pe_cmpR (op_eqKB hr.units0) (pe_meth0 (pv 0) T.ow_Walker.cl T.me_Walker_parts (ok_Walker_parts T) (hr.mono (by decide)) T.b_Walker_parts .nil passL) (pe_meth0 (pv 1) T.ow_Walker.cl T.me_Walker_parts (ok_Walker_parts T) (hr.mono (by decide)) T.b_Walker_parts .nil passL) (nomark _))))))), ?_⟩
  rw [show L2.start ["self", "other"] [V.ref a, v] = [some (V.ref a), some (v)] from rfl]
  walk_at "w_go"
  refine r_isiO ty hk ?_
  walk_at "w_go"
  exact k H (Same.refl _)
theorem ok_Walker_eqA (T : Txt P K mg ad) : FnOk P w K mg base (L2.CX P w) 6 ad.Walker_eq ad.fd_Walker_eq ["self", "other"] (spOr2 (spWEqB ad.Kind ad.Schema ad.Walker ad.Guard) (spWEqV ad.Walker ad.Guard K)) := by
  exact FnOk.or (ok_Walker_eqB T) (ok_Walker_eqV T)
end
end Wm
namespace Wm
open PySem L2

section
variable {P : Program} {w : World} {K : PySem.W.Frag} {mg : Str → Option Value} {base : Heap} {ad : Ad}
theorem ok_Guard_str (T : Txt P K mg ad) : FnOk P w K mg base (L2.CX P w) 2 ad.Guard_str ad.fd_Guard_str ["self"] (spStr ad.Guard) := by
  refine T.F_Guard_str.okX sc_Guard_str (fun vs H Q E h => ?_) (fun cdv A outer s H vs Q E hr h => ?_)
  · obtain ⟨a, dx, m, t, b, k, e, rfl, _⟩ := h
    rfl
  obtain ⟨a, dx, m, t, b, k, e, rfl, ha, ⟨l1, l2, l3, l4, l5⟩, kQ⟩ := h
  refine ⟨_, (pss_cons (ps_set (i := 1) sc_Guard_str.nd rfl (Or.inl rfl) (pe_lst pa_nil))
    (pss_cons (ps_if (pt_cmpR op_ne (pe_fld (pv 0) rfl) pe_str (nomark _)) (pss_one (ps_expr (pe_bm PySem.F.plainAttrs_list PySem.F.slot_list_append PySem.F.type_list_append mt_append (pv 1) (pa_cons (pe_joinedD (PJ.cons (pe_fmt (pe_fld (pv 0) rfl)) (PJ.cons pe_str (PJ.cons (pe_fmt (pe_fld (pv 0) rfl)) (PJ.cons pe_str (PJ.cons (pe_fmt (pe_fld (pv 0) rfl)) PJ.nil)))))) pa_nil)))) pss_nil)
    (pss_cons (ps_if (pt_cmpR op_ne (pe_fld (pv 0) rfl) pe_str (nomark _)) (pss_one (ps_expr (pe_bm PySem.F.plainAttrs_list PySem.F.slot_list_append PySem.F.type_list_append mt_append (pv 1) (pa_cons (pe_joinedD (PJ.cons (pe_fmt (pe_fld (pv 0) rfl)) (PJ.cons pe_str (PJ.cons (pe_fmt (pe_fld (pv 0) rfl)) PJ.nil)))) pa_nil)))) pss_nil)
    (pss_cons (ps_if (pt_cmpR op_eq (pe_callB c_len (by rfl) T.n_len PySem.boot_len (pa_cons (pv 1) pa_nil)) pe_int (nomark _)) (pss_one (ps_ret pe_str)) pss_nil)
    (pss_one (ps_ret (pe_bm PySem.F.plainAttrs_str PySem.F.slot_str_join PySem.F.type_str_join mtJoin pe_str (pa_cons (pv 1) pa_nil)))))))), ?_⟩
  rw [show L2.start ["self", "parts"] [V.ref a] = [some (V.ref a), none] from rfl]
  have cl := T.ow_Guard.cl
  have f1 := T.no_Guard_mark
  have f2 := T.no_Guard_act
  have f3 := T.no_Guard_by
  have f4 := T.no_Guard_keep
  have f5 := T.no_Guard_keep_by
  replace ha : H a = some (.ins ad.Guard dx [("mark", .str m), ("act", .str t), ("by", .str b), ("keep", .str k), ("keep_by", .str e)]) := ha
  walk_at "w_go"
  have js : ∀ {x y : Str}, x.length ≤ 40 → y.length ≤ 40 → ([x, y].map (·.length)).sum + [x, y].length * (Str.ofString ", ").length ≤ 16777216 := fun h1 h2 => by
    simp only [List.map_cons, List.map_nil, List.sum_cons, List.sum_nil, List.length_cons, List.length_nil, show (Str.ofString ", ").length = 2 from rfl]
    omega
  have j1 : ∀ {x : Str}, x.length ≤ 40 → ([x].map (·.length)).sum + [x].length * (Str.ofString ", ").length ≤ 16777216 := fun h1 => by
    simp only [List.map_cons, List.map_nil, List.sum_cons, List.sum_nil, List.length_cons, List.length_nil, show (Str.ofString ", ").length = 2 from rfl]
    omega
  have e1 : (Str.ofString " ").length = 1 := rfl
  have e0 : Str.empty.length = 0 := rfl
  have z1 : (Str.empty ++ m ++ Str.ofString " " ++ b ++ Str.ofString " " ++ t).length ≤ 40 := by
    simp only [Str.length_append, e0, e1]
    omega
  have z2 : (Str.empty ++ k ++ Str.ofString " " ++ e).length ≤ 40 := by
    simp only [Str.length_append, e0, e1]
    omega
  have kF : ∀ {y : Str}, strT m b t k e = y → ∀ H', Same H H' → Q (.str y) H' := fun e H' s => e ▸ kQ H' s
  by_cases hm : m = "none"
  · by_cases hk : k = "none"
    · refine iteF' (by simp [hm]) ?_
      walk_at "w_go"
      refine iteF' (by simp [hk]) ?_
      walk_at "w_go"
      refine iteT' rfl ?_
      walk_at "w_go"
      show Q _ _
      refine kF ?_ _ ?_
      · unfold strT; rw [if_pos hm, if_pos hk]
      · assumption
    · refine iteF' (by simp [hm]) ?_
      walk_at "w_go"
      refine iteT' (by simp [hk]) ?_
      walk_at "w_go"
      refine iteF' rfl ?_
      walk_at "w_go"
      refine r_join [_] upd_same rfl (j1 z2) ?_
      show Q _ _
      refine kF ?_ _ ?_
      · unfold strT; rw [if_pos hm, if_neg hk]
      · walk_at "w_same"
  · by_cases hk : k = "none"
    · refine iteT' (by simp [hm]) ?_
      walk_at "w_go"
      refine iteF' (by simp [hk]) ?_
      walk_at "w_go"
      refine iteF' rfl ?_
      walk_at "w_go"
      refine r_join [_] upd_same rfl (j1 z1) ?_
      show Q _ _
      refine kF ?_ _ ?_
      · unfold strT; rw [if_neg hm, if_pos hk]
      · walk_at "w_same"
    · refine iteT' (by simp [hm]) ?_
      walk_at "w_go"
      refine iteT' (by simp [hk]) ?_
      walk_at "w_go"
      refine iteF' rfl ?_
      walk_at "w_go"
      refine r_join [_, _] upd_same rfl (js z1 z2) ?_
      show Q _ _
      refine kF ?_ _ ?_
      · unfold strT; rw [if_neg hm, if_neg hk]
      · walk_at "w_same"
end
end Wm
namespace Wm
open PySem L2
open PySem.W (Datum)

section
variable {P : Program} {w : World} {K : PySem.W.Frag} {mg : Str → Option Value} {base : Heap} {ad : Ad}
theorem parts_dd {K : PySem.W.Frag} {CW CG S a q : Addr} {H H1 : Hp} {rows : List Row} {wk : Wk} {dx gt ot nt : Addr} {gvs ovs nvs : List V} (hok : SchOk rows) (hw : WkOk rows wk) (iw : WkrIn CW CG H S wk a dx gt ot nt gvs ovs nvs) (s : Same H H1) (e : H1 q = some (.dK (pkvs (.str wk.start) (.ref gt) (.ref ot) (.ref nt) (limV wk.lim) wk.frees))) : PartsD K CG H1 rows wk q := by
  have iw1 := iw.sameW s
  exact ⟨gt, ot, nt, gvs, ovs, nvs, e, (hw.pok hok).parts (.inr iw1.gat.sq) iw1.g (.inr (.of iw1.oat)) iw1.o (.inr (.of iw1.nat)) iw1.n⟩
theorem ok_walker_text (T : Txt P K mg ad) : FnOk P w K mg base (L2.CX P w) 3 ad.walker_text ad.fd_walker_text ["parts"] (spWText K ad.Guard) := by
  refine T.F_walker_text.okX sc_walker_text (fun vs H Q E h => ?_) (fun cdv A outer s H vs Q E hr h => ?_)
  · obtain ⟨d, rows, wk, rfl, _⟩ := h
    rfl
  obtain ⟨d, rows, wk, rfl, ⟨ga, oa, na, gxs, oxs, nxs, ed, pt⟩, hok, hw, q⟩ := h
  refine ⟨_, (pss_cons (ps_set (i := 1) sc_walker_text.nd rfl (Or.inl rfl) (pe_lst (pa_cons (pe_joinedD (PJ.cons pe_str (PJ.cons (pe_fmt (pe_dget (hu_of hr) (pv 0) pe_str (fun _ _ => rfl))) PJ.nil))) pa_nil)))
    (pss_cons (ps_if (pt_cmpR op_notNn (pe_dget (hu_of hr) (pv 0) pe_str (fun _ _ => rfl)) pe_non (nomark _)) (pss_one (ps_expr (pe_bm PySem.F.plainAttrs_list PySem.F.slot_list_append PySem.F.type_list_append mt_append (pv 1) (pa_cons (pe_joinedD (PJ.cons pe_str (PJ.cons (pe_fmt (pe_dget (hu_of hr) (pv 0) pe_str (fun _ _ => rfl))) PJ.nil))) pa_nil)))) pss_nil)
    (pss_cons (ps_if (pt_not (pt_truth (pe_dget (hu_of hr) (pv 0) pe_str (fun _ _ => rfl)) (by intro _; rfl))) (pss_one (ps_expr (pe_bm PySem.F.plainAttrs_list PySem.F.slot_list_append PySem.F.type_list_append mt_append (pv 1) (pa_cons pe_str pa_nil)))) pss_nil)
    (pss_cons (ps_expr (pe_bm PySem.F.plainAttrs_list PySem.F.slot_list_extend PySem.F.type_list_extend mt_extend (pv 1) (pa_cons (pe_lc (own := [("kind", 2), ("guard", 3)]) (g := gTup K 2 (gCons (gName 2) (gCons (gName 3) gNil))) (tt := tYes) rfl sc_walker_text.nd (pi_or (pi_list (pe_dget (hu_of hr) (pv 0) pe_str (fun _ _ => rfl))) (pi_tup (pe_dget (hu_of hr) (pv 0) pe_str (fun _ _ => rfl)))) (blkOk_by (own := [("kind", 2), ("guard", 3)]) (N := ["parts", "lines", "kind", "guard", "owner", "field"]) (sc := defScope s_walker_text) (by decide +kernel)) (fun _ _ _ _ _ => pg_tup rfl (pgs_cons (pg_name (i := 2) sc_walker_text.nd rfl (Or.inl rfl)) (pgs_cons (pg_name (i := 3) sc_walker_text.nd rfl (Or.inl rfl)) pgs_nil))) (fun _ _ _ _ _ => pts_nil) (fun _ _ _ _ _ => (pe_joinedD (PJ.cons pe_str (PJ.cons (pe_fmt (pv 2)) (PJ.cons pe_str (PJ.cons (pe_fmtO (pv 3) (ok_Guard_str T) hr T.me_Guard_str T.b_Guard_str passL) PJ.nil))))))) pa_nil)))
    (pss_cons (ps_expr (pe_bm PySem.F.plainAttrs_list PySem.F.slot_list_extend PySem.F.type_list_extend mt_extend (pv 1) (pa_cons (pe_lc (own := [("owner", 4), ("field", 5)]) (g := gTup K 2 (gCons (gName 4) (gCons (gName 5) gNil))) (tt := tYes) rfl sc_walker_text.nd (pi_or (pi_list (pe_dget (hu_of hr) (pv 0) pe_str (fun _ _ => rfl))) (pi_tup (pe_dget (hu_of hr) (pv 0) pe_str (fun _ _ => rfl)))) (blkOk_by (own := [("owner", 4), ("field", 5)]) (N := ["parts", "lines", "kind", "guard", "owner", "field"]) (sc := defScope s_walker_text) (by decide +kernel)) (fun _ _ _ _ _ => pg_tup rfl (pgs_cons (pg_name (i := 4) sc_walker_text.nd rfl (Or.inl rfl)) (pgs_cons (pg_name (i := 5) sc_walker_text.nd rfl (Or.inl rfl)) pgs_nil))) (fun _ _ _ _ _ => pts_nil) (fun _ _ _ _ _ => (pe_joinedD (PJ.cons pe_str (PJ.cons (pe_fmt (pv 4)) (PJ.cons pe_str (PJ.cons (pe_fmt (pv 5)) PJ.nil))))))) pa_nil)))
    (pss_cons (ps_expr (pe_bm PySem.F.plainAttrs_list PySem.F.slot_list_extend PySem.F.type_list_extend mt_extend (pv 1) (pa_cons (pe_lc (own := [("owner", 4), ("field", 5)]) (g := gTup K 2 (gCons (gName 4) (gCons (gName 5) gNil))) (tt := tYes) rfl sc_walker_text.nd (pi_or (pi_list (pe_dget (hu_of hr) (pv 0) pe_str (fun _ _ => rfl))) (pi_tup (pe_dget (hu_of hr) (pv 0) pe_str (fun _ _ => rfl)))) (blkOk_by (own := [("owner", 4), ("field", 5)]) (N := ["parts", "lines", "kind", "guard", "owner", "field"]) (sc := defScope s_walker_text) (by decide +kernel)) (fun _ _ _ _ _ => pg_tup rfl (pgs_cons (pg_name (i := 4) sc_walker_text.nd rfl (Or.inl rfl)) (pgs_cons (pg_name (i := 5) sc_walker_text.nd rfl (Or.inl rfl)) pgs_nil))) (fun _ _ _ _ _ => pts_nil) (fun _ _ _ _ _ => (pe_joinedD (PJ.cons pe_str (PJ.cons (pe_fmt (pv 4)) (PJ.cons pe_str (PJ.cons (pe_fmt (pv 5)) PJ.nil))))))) pa_nil)))
    (pss_one (ps_ret (pe_bm PySem.F.plainAttrs_str PySem.F.slot_str_join PySem.F.type_str_join mtJoin pe_str (pa_cons (pv 1) pa_nil)))))))))), ?_⟩
  rw [show L2.start ["parts", "lines", "kind", "guard", "owner", "field"] [V.ref d] = [some (V.ref d), none, none, none, none, none] from rfl]
  have lst := kindName_len (hok.ok.kn hw.st)
  have lnw := (hw.pok hok).lens hok
  obtain ⟨lg, lo, ln⟩ := lnw
  have h1 := pt.g.len
  have h2 := pt.o.len
  have h3 := pt.n.len
  have hln : (walkL wk :: limL wk.lim ++ lvL wk.frees).length ≤ 3 := by
    cases wk.lim <;> cases wk.frees <;> simp [limL, lvL]
  with_reducible refine r_seq ?_
  with_reducible refine r_joinS (fun σ H' => ∃ qL, σ = [some (.ref d), some (.ref qL), none, none, none, none] ∧ Same H H' ∧ H qL = none ∧ H' qL = some (.lst [.str (walkL wk)])) ?_ (fun N hN => ?_)
  rotate_left
  · walk_at "w_go"
    rename_i qL H1 n1 s1 e1
    exact hN _ _ ⟨qL, rfl, s1, n1, e1⟩
  rintro σ H1 ⟨qL, rfl, s1, nL, e1⟩
  with_reducible refine r_seq ?_
  with_reducible refine r_joinS (fun σ H' => σ = [some (.ref d), some (.ref qL), none, none, none, none] ∧ Same H H' ∧ H' qL = some (.lst ((walkL wk :: limL wk.lim).map V.str))) ?_ (fun N hN => ?_)
  rotate_left
  · have ed1 := s1 _ _ ed
    walk_at "w_go"
    generalize hl : wk.lim = l at ed1 ⊢
    cases l with
    | none =>
      refine iteF' rfl ?_
      walk_at "w_go"
      exact hN _ _ ⟨rfl, s1, by rw [hl]; exact e1⟩
    | some n =>
      refine iteT' rfl ?_
      walk_at "w_go"
      have hn := hw.lim n hl
      have ll := limS_len hn
      refine r_fmtI hn ?_
      walk_at "w_go"
      exact hN _ _ ⟨rfl, same_put s1 nL, by rw [hl]; exact upd_same⟩
  rintro σ H2 ⟨rfl, s2, e2⟩
  with_reducible refine r_seq ?_
  with_reducible refine r_joinS (fun σ H' => σ = [some (.ref d), some (.ref qL), none, none, none, none] ∧ Same H H' ∧ H' qL = some (.lst ((walkL wk :: limL wk.lim ++ lvL wk.frees).map V.str))) ?_ (fun N hN => ?_)
  rotate_left
  · have ed2 := s2 _ _ ed
    walk_at "w_go"
    refine ⟨_, rfl, ?_⟩
    cases hf : wk.frees with
    | true =>
      refine iteF' rfl ?_
      walk_at "w_go"
      exact hN _ _ ⟨rfl, s2, by rw [hf, show lvL true = [] from rfl, List.append_nil]; exact e2⟩
    | false =>
      refine iteT' rfl ?_
      walk_at "w_go"
      exact hN _ _ ⟨rfl, same_put s2 nL, by rw [hf, List.map_append]; exact upd_same⟩
  rintro σ H3 ⟨rfl, s3, e3⟩
  generalize hpre : walkL wk :: limL wk.lim ++ lvL wk.frees = pre at hln e3
  have ed3 := s3 _ _ ed
  clear s1 e1 s2 e2 H1 H2
  walk_at "w_go"
  refine r_iAE (K := K) (p := ga) (xs := gxs) (H0 := H) (fun R hR => by
    walk_at "w_go"
    exact hR) pt.gat.sqa s3 (fun J G wJ hG => ?_)
  refine r_lcW wJ wk.gs h1 (fun _ => true) (fun x y _ => y = V.str (guardL x)) (fun _ _ _ _ z _ => z) (fun H' s => hG H' (s3.trans s)) (by rw [PySem.sizeLine_eq]; omega) (fun D j x y Hi Hj acc Kt Kf hD ha sI eD yy kt kf => ?_) (fun qc ys H4 n4 s4 e4 hr4 => ?_)
  · obtain ⟨rfl, hx⟩ := yy
    obtain ⟨y', hy', t, gv, rfl, et, hg⟩ := pt.g.left ha
    rw [hx] at hy'
    cases hy'
    have hxm := List.mem_of_getElem? ha
    have etj := (s3.trans sI) _ _ et
    obtain ⟨g, dx, rfl, eg⟩ := hg
    have egj := (s3.trans sI) _ _ eg
    have l8 := kindName_len (hok.ok.kn (pt.gn x hxm))
    have l10 := len10 (hw.g5 x hxm)
    have l60 := strT_len (b := x.2.b) ⟨l10.1, l10.2.1, l10.2.2.1, l10.2.2.2.1, l10.2.2.2.2⟩
    generalize hwp : wipe [some (V.ref d), some (V.ref qL), none, none, none, none] _ = σ0
    have hw2 : σ0 = [some (V.ref d), some (V.ref qL), none, none, none, none] := hwp.symm.trans rfl
    clear hwp
    subst hw2
    refine r_gtupK etj rfl ?_
    walk_at "w_go"
    refine ⟨rfl, ?_⟩
    walk_at "w_go"
    refine r_fmtOe ?_
    walk_at "w_go"
    refine r_fmtO egj ⟨g, dx, _, _, _, _, _, rfl, egj, l10, fun H5 s5 => ?_⟩
    refine r_strBk2 (by rw [PySem.sizeLine_eq]; omega) ?_
    walk_at "w_go"
    exact kt rfl _ _ s5 rfl
  rw [List.filter_eq_self.mpr (fun _ _ => rfl)] at hr4
  have hys := all2_sf hr4
  subst hys
  have e3' := s4 _ _ e3
  walk_at "w_go"
  refine r_extend e3' e4 (by rw [PySem.sizeLine_eq]; simp only [List.length_map] at *; omega) ?_
  generalize hH : upd H4 qL _ = H5
  have s5 : Same H H5 := by
    rw [← hH]
    exact same_put (s3.trans s4) nL
  have e5 : H5 qL = some (.lst ((pre ++ wk.gs.map guardL).map V.str)) := by
    rw [← hH, List.map_append]
    exact upd_same
  have l5 : (pre ++ wk.gs.map guardL).length ≤ 9 := by
    rw [List.length_append, List.length_map]
    omega
  clear hH s4 e4 hr4 e3' n4 wJ hG s3 e3 ed3
  generalize hp5 : pre ++ wk.gs.map guardL = pre5 at e5 l5
  have ed5 := s5 _ _ ed
  walk_at "w_go"
  refine r_iAE (K := K) (p := oa) (xs := oxs) (H0 := H) (fun R hR => by
    walk_at "w_go"
    exact hR) pt.oat.sqa s5 (fun J G wJ hG => ?_)
  refine r_lcW wJ wk.out h2 (fun _ => true) (fun x y _ => y = V.str (pairL "out" x)) (fun _ _ _ _ z _ => z) (fun H' s => hG H' (s5.trans s)) (by rw [PySem.sizeLine_eq]; omega) (fun D j x y Hi Hj acc Kt Kf hD ha sI eD yy kt kf => ?_) (fun qc ys H4 n4 s4 e4 hr4 => ?_)
  · obtain ⟨rfl, hx⟩ := yy
    obtain ⟨y', hy', t, rfl, et⟩ := pt.o.left ha
    rw [hx] at hy'
    cases hy'
    have hxm := List.mem_of_getElem? ha
    have etj := (s5.trans sI) _ _ et
    obtain ⟨l8, l9⟩ := own_names hok (pt.on x hxm)
    generalize hwp : wipe [some (V.ref d), some (V.ref qL), none, none, none, none] _ = σ0
    have hw2 : σ0 = [some (V.ref d), some (V.ref qL), none, none, none, none] := hwp.symm.trans rfl
    clear hwp
    subst hw2
    refine r_gtupK etj rfl ?_
    walk_at "w_go"
    refine ⟨rfl, ?_⟩
    walk_at "w_go"
    exact kt rfl _ _ (Same.refl _) rfl
  rw [List.filter_eq_self.mpr (fun _ _ => rfl)] at hr4
  have hys := all2_sf hr4
  subst hys
  have e5' := s4 _ _ e5
  walk_at "w_go"
  refine r_extend e5' e4 (by rw [PySem.sizeLine_eq]; simp only [List.length_map, List.length_append] at *; omega) ?_
  generalize hH : upd H4 qL _ = H6
  have s6 : Same H H6 := by
    rw [← hH]
    exact same_put (s5.trans s4) nL
  have e6 : H6 qL = some (.lst ((pre5 ++ wk.out.map (pairL "out")).map V.str)) := by
    rw [← hH, List.map_append]
    exact upd_same
  have l6 : (pre5 ++ wk.out.map (pairL "out")).length ≤ 1009 := by
    rw [List.length_append, List.length_map]
    omega
  clear hH s4 e4 hr4 e5' n4 wJ hG s5 e5 ed5
  generalize hp6 : pre5 ++ wk.out.map (pairL "out") = pre6 at e6 l6
  have ed6 := s6 _ _ ed
  walk_at "w_go"
  refine r_iAE (K := K) (p := na) (xs := nxs) (H0 := H) (fun R hR => by
    walk_at "w_go"
    exact hR) pt.nat.sqa s6 (fun J G wJ hG => ?_)
  refine r_lcW wJ wk.anew h3 (fun _ => true) (fun x y _ => y = V.str (pairL "anew" x)) (fun _ _ _ _ z _ => z) (fun H' s => hG H' (s6.trans s)) (by rw [PySem.sizeLine_eq]; omega) (fun D j x y Hi Hj acc Kt Kf hD ha sI eD yy kt kf => ?_) (fun qc ys H4 n4 s4 e4 hr4 => ?_)
  · obtain ⟨rfl, hx⟩ := yy
    obtain ⟨y', hy', t, rfl, et⟩ := pt.n.left ha
    rw [hx] at hy'
    cases hy'
    have hxm := List.mem_of_getElem? ha
    have etj := (s6.trans sI) _ _ et
    obtain ⟨l8, l9⟩ := own_names hok (pt.nn x hxm)
    generalize hwp : wipe [some (V.ref d), some (V.ref qL), none, none, none, none] _ = σ0
    have hw2 : σ0 = [some (V.ref d), some (V.ref qL), none, none, none, none] := hwp.symm.trans rfl
    clear hwp
    subst hw2
    refine r_gtupK etj rfl ?_
    walk_at "w_go"
    refine ⟨rfl, ?_⟩
    walk_at "w_go"
    exact kt rfl _ _ (Same.refl _) rfl
  rw [List.filter_eq_self.mpr (fun _ _ => rfl)] at hr4
  have hys := all2_sf hr4
  subst hys
  have e6' := s4 _ _ e6
  walk_at "w_go"
  refine r_extend e6' e4 (by rw [PySem.sizeLine_eq]; simp only [List.length_map, List.length_append] at *; omega) ?_
  generalize hH : upd H4 qL _ = H7
  have s7 : Same H H7 := by
    rw [← hH]
    exact same_put (s6.trans s4) nL
  have e7 : H7 qL = some (.lst ((pre6 ++ wk.anew.map (pairL "anew")).map V.str)) := by
    rw [← hH, List.map_append]
    exact upd_same
  have l7 : pre6 ++ wk.anew.map (pairL "anew") = walkL wk :: linesW wk := by
    rw [← hp6, ← hp5, ← hpre]
    rfl
  rw [l7] at e7
  walk_at "w_go"
  refine r_join _ e7 rfl (lines_small hok hw) ?_
  exact q H7 s7
theorem ok_Walker_str (T : Txt P K mg ad) : FnOk P w K mg base (L2.CX P w) 4 ad.Walker_str ad.fd_Walker_str ["self"] (spWStr ad.Kind ad.Schema ad.Guard ad.Walker) := by
  refine T.F_Walker_str.okX sc_Walker_str (fun vs H Q E h => ?_) (fun cdv A outer s H vs Q E hr h => ?_)
  · obtain ⟨a, S, rows, wk, rfl, _⟩ := h
    rfl
  obtain ⟨a, S, rows, wk, rfl, hW, hS, hok, hw, q⟩ := h
  obtain ⟨dx, gt, ot, nt, gvs, ovs, nvs, iw⟩ := id hW
  refine ⟨_, (pss_one (ps_ret (pe_callTy (SkE.call_str_str : CallR _ (.type "str") rStrSS) (by rfl) T.n_str (by decide +kernel) (pa_cons (pe_call (ok_walker_text T) hr rfl T.g_walker_text T.F_walker_text.kp T.b_walker_text .nil passL (pa_cons (pe_meth0 (pv 0) T.ow_Walker.cl T.me_Walker_parts (ok_Walker_parts T) (hr.mono (by decide)) T.b_Walker_parts .nil passL) pa_nil)) pa_nil)))), ?_⟩
  rw [show L2.start ["self"] [V.ref a] = [some (V.ref a)] from rfl]
  have eA := iw.at_
  walk_at "w_go"
  refine ⟨a, S, wk, dx, gt, ot, nt, gvs, ovs, nvs, rfl, iw, fun q2 H1 s1 n1 e1 => ?_⟩
  walk_at "w_go"
  have pd := parts_dd (K := K) hok hw iw s1 e1
  refine ⟨q2, rows, wk, rfl, pd, hok, hw, fun H2 s2 => ?_⟩
  walk_at "w_go"
  refine r_strSS ?_
  exact q H2 (s1.trans s2)
end
end Wm
namespace Wm
open PySem L2
open PySem.W (Datum)

section
variable {P : Program} {w : World} {K : PySem.W.Frag} {mg : Str → Option Value} {base : Heap} {ad : Ad}
theorem ok_l_key (T : Txt P K mg ad) : FnC P w K mg base (L2.CX P w) 2 ad.l_key ad.fd_l_key ["_law_rows_here", "_law_walker_here"] (spLKey K) := by
  refine okC T.F_l_key sc_l_key (fun vs H Q E h => ?_) (fun cdv A outer s H vs Q E hgd hr h => ?_)
  · obtain ⟨L, W, p, rows, wk, rfl, _⟩ := h
    rfl
  obtain ⟨L, W, p, rows, wk, rfl, hR, hok, hW, hw, k⟩ := h
  refine ⟨_, (pss_cons (ps_setLc (i := 2) (own := [("_law_row", 3)]) (g := gName 3) rfl sc_l_key.nd rfl rfl (sw_true rfl rfl rfl (by decide +kernel)) (pi_list (pv 0)) (blkOk_by (own := [("_law_row", 3)]) (N := ["_law_rows_here", "_law_walker_here", "_law_guard_rows", "_law_row"]) (sc := defScope s_l_key) (by decide +kernel)) (fun _ _ _ _ _ => pg_name (i := 3) sc_l_key.nd rfl (Or.inl rfl)) (fun _ _ _ _ _ => (pts_one (pt_cmp (pc_din (hu_of hr) (pe_ix (ix_tup : IxR _ (rIxT K)) (pv 3) pe_int (fun _ _ => rfl)) (pe_dget (hu_of hr) (pv 1) pe_str (fun _ _ => rfl)))))) (fun _ _ _ _ _ => (pe_tup (pa_cons (pe_ix (ix_tup : IxR _ (rIxT K)) (pv 3) pe_int (fun _ _ => rfl)) (pa_cons (pe_dget (hu_of hr) (pe_dget (hu_of hr) (pv 1) pe_str (fun _ _ => rfl)) (pe_ix (ix_tup : IxR _ (rIxT K)) (pv 3) pe_int (fun _ _ => rfl)) (fun _ _ => rfl)) pa_nil)))))
    (pss_one (ps_ret (pe_callB (call_reprD hgd hr.units) (by rfl) T.n_repr (by decide +kernel) (pa_cons (pe_tup (pa_cons (pv 0) (pa_cons (pe_dget (hu_of hr) (pv 1) pe_str (fun _ _ => rfl)) (pa_cons (pv 2) (pa_cons (pe_dget (hu_of hr) (pv 1) pe_str (fun _ _ => rfl)) (pa_cons (pe_dget (hu_of hr) (pv 1) pe_str (fun _ _ => rfl)) (pa_cons (pe_dget (hu_of hr) (pv 1) pe_str (fun _ _ => rfl)) (pa_cons (pe_dget (hu_of hr) (pv 1) pe_str (fun _ _ => rfl)) pa_nil)))))))) pa_nil))))), ?_⟩
  rw [show L2.start ["_law_rows_here", "_law_walker_here", "_law_guard_rows", "_law_row"] [V.ref L, V.ref W] = [some (V.ref L), some (V.ref W), none, none] from rfl]
  obtain ⟨rvs, eL, hrvs⟩ := id hR
  obtain ⟨gd, ol, al, gvs, ovs, avs, iw, _, _, nWg⟩ := id hW
  have eW := iw.at_
  have rlen := hrvs.len
  have hfew := hok.few
  walk_at "w_go"
  have hg := iw.g
  have eG := iw.gat
  refine r_ilK (.of eL) ?_
  refine r_lcW walk_list rows rlen (fun r => decide (r.name ∈ wk.gs.map (·.1))) (fun (r : Row) y H' => ∀ g, (r.name, g) ∈ wk.gs → G5Row H' (r.name, g) y) (fun _ _ _ _ h hh g hg => (h g hg).same hh) (fun _ z => .of (z _ _ eL)) (by rw [PySem.sizeLine_eq, ← rlen]; omega) (fun D j r y Hi Hj acc Kt Kf hD ha sI eD yy kt kf => ?_) (fun qd ds H1 n1 s1 e1 hr1 => ?_)
  · obtain ⟨rfl, hx⟩ := yy
    obtain ⟨y', hy', ra, bv, ov, rfl, er, _, _⟩ := hrvs.left ha
    rw [hx] at hy'
    cases hy'
    have eri := sI _ _ er
    have eWi := sI _ _ eW
    have eGi := sI _ _ eG
    obtain ⟨l1, l2⟩ := look_gs (R := fun x v => G5At H x.2 v) (n := r.name) hg
    refine ⟨wipe_set1, ?_⟩
    walk_at "w_go"
    have nd : (wk.gs.map (·.1)).Nodup := hw.gs.nodup hok.ok.nd
    cases hf : wk.gs.find? (fun x => x.1 == r.name) with
    | none =>
      have hn : r.name ∉ wk.gs.map (·.1) := fun z => by
        obtain ⟨x, hx1, hx2⟩ := List.mem_map.mp z
        have := List.find?_eq_none.mp hf x hx1
        simp [hx2] at this
      refine r_dInN eGi (l2 hf) ?_
      walk_at "w_go"
      exact kf (decide_eq_false hn) _ (Same.refl _)
    | some x =>
      obtain ⟨gv, hgv, q5, rfl, hq5⟩ := l1 x hf
      have hxn : x.1 = r.name := by simpa using List.find?_some hf
      have hn : r.name ∈ wk.gs.map (·.1) := by rw [← hxn]; exact List.mem_map_of_mem (List.mem_of_find?_eq_some hf)
      have hq5i := sI _ _ hq5
      refine r_dInS eGi hgv ?_
      walk_at "w_go"
      refine r_dgetK eGi hgv ?_
      walk_at "w_go"
      rename_i qt H19 n19 s19 e19
      have ntD : qt ≠ D := fun z => by rw [z, eD] at n19; cases n19
      have nqD : q5 ≠ D := fun z => by rw [z, eD] at hq5i; cases hq5i
      refine kt (decide_eq_true hn) _ _ s19 (fun g hg => ?_)
      have hxx := gs_find nd hg
      rw [hf] at hxx
      obtain rfl := Option.some.inj hxx
      exact ⟨qt, q5, rfl, hid_at ntD e19, hid_at nqD (s19 _ _ hq5i)⟩
  have due := due_gs (rows_gs hok hw) hr1 (fun x hx => hx)
  have iw1 := iw.same s1
  have eW1 := iw1.at_
  walk_at "w_go"
  rename_i q H2 n2 s2 e2
  have iw2 := iw1.same s2
  have s02 := s1.trans s2
  have hd : Dp K H2 (.ref q) (keyP rows wk) := dp_key e2 (s02 _ _ eL) (all2_rows hrvs (tx_same s02)) (s2 _ _ e1) (due.mono fun _ _ z => z.same s2) iw2.oat iw2.o iw2.aat iw2.a
  have hsim := sim_show _ (key_sim hok hw)
  refine ⟨q, keyP rows wk, rfl, hd, hsim.1, hsim.2, key_depth rows wk, key_len hok hw, ?_⟩
  walk_at "w_go"
  exact k H2 s02
end
end Wm
namespace Wm
open PySem L2
open PySem.W (Datum)

section
variable {P : Program} {w : World} {K : PySem.W.Frag} {mg : Str → Option Value} {base : Heap} {ad : Ad}
theorem ok_l_one_part (T : Txt P K mg ad) : FnOk P w K mg base (L2.CX P w) 6 ad.l_one_part ad.fd_l_one_part ["_law_pen_here", "_law_rows_here", "_law_walker_here"] spLOnePart := by
  refine T.F_l_one_part.okX sc_l_one_part (fun vs H Q E h => ?_) (fun cdv A outer s H vs Q E hr h => ?_)
  · obtain ⟨p, c, L, W, rows, wk, rfl, _⟩ := h
    rfl
  obtain ⟨p, c, L, W, rows, wk, rfl, hp, hR, hok, hW, hw, k⟩ := h
  refine ⟨_, (pss_cons (ps_set (i := 3) sc_l_one_part.nd rfl (Or.inl rfl) (pe_disp (pps_cons pe_str (pe_callTy c_dictD (by rfl) T.n_dict (by decide +kernel) (pa_cons (pe_dget (hu_of hr) (pv 2) pe_str (fun _ _ => rfl)) pa_nil)) (pps_cons pe_str (pe_callTy c_list (by rfl) T.n_list (by decide +kernel) (pa_cons (pe_dget (hu_of hr) (pv 2) pe_str (fun _ _ => rfl)) pa_nil)) (pps_cons pe_str (pe_callTy c_list (by rfl) T.n_list (by decide +kernel) (pa_cons (pe_dget (hu_of hr) (pv 2) pe_str (fun _ _ => rfl)) pa_nil)) (pps_cons pe_str (pe_dget (hu_of hr) (pv 2) pe_str (fun _ _ => rfl)) (pps_cons pe_str (pe_dget (hu_of hr) (pv 2) pe_str (fun _ _ => rfl)) pps_nil))))) (by rfl) (by rfl) (fun z => by cases z) (by decide)))
    (pss_cons (ps_dput (hu_of hr) (pv 3) pe_str (pe_dget (hu_of hr) (pv 2) pe_str (fun _ _ => rfl)) rfl)
    (pss_cons (ps_set (i := 4) sc_l_one_part.nd rfl (Or.inr rfl) (pe_call (ok_l_walker T) hr rfl T.g_l_walker T.F_l_walker.kp T.b_l_walker .nil passL (pa_cons (pv 0) (pa_cons (pv 1) pa_nil))))
    (pss_cons (ps_set (i := 5) sc_l_one_part.nd rfl (Or.inl rfl) (pe_call (ok_l_pick T) (hr.mono (by decide)) rfl T.g_l_pick T.F_l_pick.kp T.b_l_pick .nil passL (pa_cons (pv 0) (pa_cons (pe_lst (pa_cons pe_str (pa_cons pe_str (pa_cons pe_str (pa_cons pe_str (pa_cons pe_str (pa_cons pe_str pa_nil))))))) pa_nil))))
    (pss_cons (ps_dput (hu_of hr) (pv 3) (pv 5) (pe_dget (hu_of hr) (pv 4) (pv 5) (fun _ _ => rfl)) rfl)
    (pss_cons (ps_if (pt_cmpR op_eq (pv 5) pe_str (nomark _)) (pss_one (ps_dput (hu_of hr) (pv 3) pe_str (pe_lc (own := [("_law_pair", 6)]) (g := gName 6) rfl sc_l_one_part.nd (pi_list (pe_dget (hu_of hr) (pv 2) pe_str (fun _ _ => rfl))) (blkOk_by (own := [("_law_pair", 6)]) (N := ["_law_pen_here", "_law_rows_here", "_law_walker_here", "_law_changed", "_law_other", "_law_name", "_law_pair"]) (sc := defScope s_l_one_part) (by decide +kernel)) (fun _ _ _ _ _ => pg_name (i := 6) sc_l_one_part.nd rfl (Or.inl rfl)) (fun _ _ _ _ _ => (pts_one (pt_cmpR (op_notInP hr.units : OpR _ _ (rInP K true)) (pv 6) (pe_dget (hu_of hr) (pv 4) pe_str (fun _ _ => rfl)) (by rfl)))) (fun _ _ _ _ _ => (pv 6))) rfl)) pss_nil)
    (pss_cons (ps_if (pt_cmpR op_eq (pv 5) pe_str (nomark _)) (pss_one (ps_dput (hu_of hr) (pv 3) pe_str (pe_lc (own := [("_law_pair", 6)]) (g := gName 6) rfl sc_l_one_part.nd (pi_list (pe_dget (hu_of hr) (pv 2) pe_str (fun _ _ => rfl))) (blkOk_by (own := [("_law_pair", 6)]) (N := ["_law_pen_here", "_law_rows_here", "_law_walker_here", "_law_changed", "_law_other", "_law_name", "_law_pair"]) (sc := defScope s_l_one_part) (by decide +kernel)) (fun _ _ _ _ _ => pg_name (i := 6) sc_l_one_part.nd rfl (Or.inl rfl)) (fun _ _ _ _ _ => (pts_one (pt_cmpR (op_notInP hr.units : OpR _ _ (rInP K true)) (pv 6) (pe_dget (hu_of hr) (pv 4) pe_str (fun _ _ => rfl)) (by rfl)))) (fun _ _ _ _ _ => (pv 6))) rfl)) pss_nil)
    (pss_one (ps_ret (pv 3)))))))))), ?_⟩
  rw [show L2.start ["_law_pen_here", "_law_rows_here", "_law_walker_here", "_law_changed", "_law_other", "_law_name", "_law_pair"] [V.ref p, V.ref L, V.ref W] = [some (V.ref p), some (V.ref L), some (V.ref W), none, none, none, none] from rfl]
  obtain ⟨gd, ol, al, gvs, ovs, avs, iw, nWp, ngp, nWg⟩ := id hW
  have eW := iw.at_
  have eG := iw.gat
  have eO := iw.oat
  have eA := iw.aat
  walk_at "w_go"
  rename_i d H1 n1 s1 e1
  refine r_dictD (s1 _ _ eG) (fun q1 H2 n2 s2 e2 => ?_)
  have eW2 := s2 _ _ (s1 _ _ eW)
  have eO2 := s2 _ _ (s1 _ _ eO)
  walk_at "w_go"
  rename_i q2 H3 n3 s3 e3 q3 H4 n4 s4 e4
  have hst := hw.st
  refine r_dispE [(.inr "guards", .ref q1), (.inr "out", .ref q2), (.inr "anew", .ref q3), (.inr "limit", limV wk.lim), (.inr "frees", .bl wk.frees)] [(.inr "guards", .ref q1), (.inr "out", .ref q2), (.inr "anew", .ref q3), (.inr "limit", limV wk.lim), (.inr "frees", .bl wk.frees)] (s4 _ _ (s3 _ _ (s2 _ _ e1))) rfl (by simp) (by rfl) ?_
  have s14 := (s2.trans s3).trans s4
  have s04 := s1.trans s14
  have nd1 : q1 ≠ d := fun z => by rw [z, e1] at n2; cases n2
  have nd2 : q2 ≠ d := fun z => by rw [z, s2 _ _ e1] at n3; cases n3
  have nd3 : q3 ≠ d := fun z => by rw [z, s3 _ _ (s2 _ _ e1)] at n4; cases n4
  have nq1p : q1 ≠ p := (hp.ne_new (s1.free n2)).1.symm
  have ndp : d ≠ p := (hp.ne_new n1).1.symm
  have nWd : W ≠ d := fun z => by rw [z, n1] at eW; cases eW
  have eWx : (upd H4 d (.dK [(.inr "guards", .ref q1), (.inr "out", .ref q2), (.inr "anew", .ref q3), (.inr "limit", limV wk.lim), (.inr "frees", .bl wk.frees)])) W = _ := (upd_ne nWd).trans (s04 _ _ eW)
  walk_at "w_go"
  rw [show putK ([(.inr "guards", .ref q1), (.inr "out", .ref q2), (.inr "anew", .ref q3), (.inr "limit", limV wk.lim), (.inr "frees", .bl wk.frees)] : List (Key × V)) (.inr "start") (.str wk.start) = wkvs q1 q2 q3 (limV wk.lim) wk.frees (.str wk.start) from rfl]
  have s5 : Same H (upd H4 d (.dK (wkvs q1 q2 q3 (limV wk.lim) wk.frees (.str wk.start)))) := same_put s04 n1
  have e5 : (upd H4 d (.dK (wkvs q1 q2 q3 (limV wk.lim) wk.frees (.str wk.start)))) d = some (.dK (wkvs q1 q2 q3 (limV wk.lim) wk.frees (.str wk.start))) := upd_same
  have f1 : (upd H4 d (.dK (wkvs q1 q2 q3 (limV wk.lim) wk.frees (.str wk.start)))) q1 = some (.dK gvs) := (upd_ne nd1).trans (s4 _ _ (s3 _ _ e2))
  have f2 : (upd H4 d (.dK (wkvs q1 q2 q3 (limV wk.lim) wk.frees (.str wk.start)))) q2 = some (.lst ovs) := (upd_ne nd2).trans (s4 _ _ e3)
  have f3 : (upd H4 d (.dK (wkvs q1 q2 q3 (limV wk.lim) wk.frees (.str wk.start)))) q3 = some (.lst avs) := (upd_ne nd3).trans e4
  generalize upd H4 d (.dK (wkvs q1 q2 q3 (limV wk.lim) wk.frees (.str wk.start))) = H5 at s5 e5 f1 f2 f3 ⊢
  clear eWx s04 s14 s1 s2 s3 s4 e1 e2 e3 e4 n2 n3 n4 eW2 eO2 eO eA eG
  have hp5 := hp.same s5
  have hR5 := hR.same s5
  have T5 := (PenStep.refl hp).same s5
  walk_at "w_go"
  refine ⟨p, c, L, rows, rfl, hp5, hR5, hok, fun w2 W2 H6 hw2 t6 n6 hW2 => ?_⟩
  have T6 := T5.trans t6
  have hp6 := t6.pen
  have e6 := t6.atd e5 ndp
  have f1' := t6.atd f1 nq1p
  have f2' := t6.at hp5 f2 rfl
  have f3' := t6.at hp5 f3 rfl
  have nd6 : W2 ≠ d := fun z => by rw [z, e5] at n6; cases n6
  clear T5 t6 e5 f1 f2 f3 s5 hp5 hR5 n6
  walk_at "w_go"
  rename_i qn H7 n7 s7 e7
  have hp7 := hp6.same s7
  refine ⟨p, c, qn, _, rfl, hp7, e7, Nat.le_of_ble_eq_true rfl, Nat.le_of_ble_eq_true rfl, fun v H8 hv t8 => ?_⟩
  have T8 := (T6.same s7).trans t8
  have hp8 := t8.pen
  have e8 := t8.atd (s7 _ _ e6) ndp
  have g1 := t8.atd (s7 _ _ f1') nq1p
  have g2 := t8.at hp7 (s7 _ _ f2') rfl
  have g3 := t8.at hp7 (s7 _ _ f3') rfl
  have hW8 := (hW2.same s7).step hp7 t8
  have iw8 : WkAt H8 wk W p := hW.step hp T8
  clear T6 hp6 e6 f1' f2' f3' hp7 e7 s7 n7 t8 hW2 eW
  obtain ⟨gd2, ol2, al2, gvs2, ovs2, avs2, i2, nW2p, ng2p, nW2g⟩ := hW8
  have eW2 := i2.at_
  have hg0 : All2 (GPairAt H8) wk.gs gvs := iw.g.mono fun _ _ z => z.tx (tx_step hp T8)
  have ho0 : All2 (PairAt H8) wk.out ovs := pairs_step iw.o hp T8
  have ha0 : All2 (PairAt H8) wk.anew avs := pairs_step iw.a hp T8
  have ng2d : gd2 ≠ d := fun z => by
    have := i2.gat
    rw [z, e8] at this
    have e := HO.dK.inj (Option.some.inj this)
    exact guards_no hok (fun x hx => hw2.gs.subset (List.mem_map_of_mem hx)) i2.g e.symm
  have fin : ∀ (w' : Wk) (ga oa na : Addr) (gv : List (Key × V)) (ov av : List V) (H9 : Hp), WkOk rows w' → PenStep p c H H9 → H9 ga = some (.dK gv) → ga ≠ d → ga ≠ p → H9 oa = some (.lst ov) → H9 na = some (.lst av) → All2 (GPairAt H9) w'.gs gv → All2 (PairAt H9) w'.out ov → All2 (PairAt H9) w'.anew av →
      ∀ kv, H9 d = some (.dK kv) → Q (.ref d) (upd H9 d (.dK (wkvs ga oa na (limV w'.lim) w'.frees (.str w'.start)))) := fun w' ga oa na gv ov av H9 hw' T9 ega ngd ngp eoa ena hg ho ha kv ed => by
    have tx : Tx H9 (upd H9 d (.dK (wkvs ga oa na (limV w'.lim) w'.frees (.str w'.start)))) := tx_put fun zs e => by rw [ed] at e; cases e
    exact k w' d _ hw' (T9.put hp n1) n1 ⟨ga, oa, na, gv, ov, av, ⟨upd_same, (upd_ne ngd).trans ega, hg.mono fun _ _ z => z.tx tx, (upd_ne (ne_of eoa ed (by intro z; cases z))).trans eoa, all2_pairs ho tx, (upd_ne (ne_of ena ed (by intro z; cases z))).trans ena, all2_pairs ha tx⟩, ndp, ngp, Ne.symm ngd⟩
  simp only [List.mem_cons, List.not_mem_nil, or_false] at hv
  have eWk := T8.atd iw.at_ nWp
  have eAk := T8.at hp iw.aat rfl
  have eOk := T8.at hp iw.oat rfl
  obtain ⟨_, bo, bn⟩ := (hw.pok hok).lens hok
  rcases hv with rfl | rfl | rfl | rfl | rfl | rfl
  · walk_at "w_go"
    refine r_dputK (kvs' := wkvs gd2 q2 q3 (limV wk.lim) wk.frees (.str wk.start)) e8 rfl (by rw [PySem.sizeLine_eq]; exact (by decide : 6 < 16777216)) ?_
    walk_at "w_go"
    refine iteF' (by decide +kernel) ?_
    walk_at "w_go"
    refine iteF' (by decide +kernel) ?_
    walk_at "w_go"
    exact fin { wk with gs := w2.gs } gd2 q2 q3 gvs2 ovs avs H8 { hw with gs := hw2.gs, g5 := hw2.g5 } T8 i2.gat ng2d ng2p g2 g3 i2.g ho0 ha0 _ e8
  · walk_at "w_go"
    refine r_dputK (kvs' := wkvs q1 ol2 q3 (limV wk.lim) wk.frees (.str wk.start)) e8 rfl (by rw [PySem.sizeLine_eq]; exact (by decide : 6 < 16777216)) ?_
    have T9 : PenStep p c H (upd H8 d (.dK (wkvs q1 ol2 q3 (limV wk.lim) wk.frees (.str wk.start)))) := T8.put hp n1
    have tx9 : Tx H8 (upd H8 d (.dK (wkvs q1 ol2 q3 (limV wk.lim) wk.frees (.str wk.start)))) := tx_put fun zs e => by rw [e8] at e; cases e
    have e9 : (upd H8 d (.dK (wkvs q1 ol2 q3 (limV wk.lim) wk.frees (.str wk.start)))) d = some (.dK (wkvs q1 ol2 q3 (limV wk.lim) wk.frees (.str wk.start))) := upd_same
    have eW9 := (upd_ne (o := .dK (wkvs q1 ol2 q3 (limV wk.lim) wk.frees (.str wk.start))) nWd).trans eWk
    have eV9 := (upd_ne (o := .dK (wkvs q1 ol2 q3 (limV wk.lim) wk.frees (.str wk.start))) nd6).trans eW2
    have g19 := (upd_ne (o := .dK (wkvs q1 ol2 q3 (limV wk.lim) wk.frees (.str wk.start))) nd1).trans g1
    have g29 := (upd_ne (o := .dK (wkvs q1 ol2 q3 (limV wk.lim) wk.frees (.str wk.start))) nd2).trans g2
    have g39 := (upd_ne (o := .dK (wkvs q1 ol2 q3 (limV wk.lim) wk.frees (.str wk.start))) nd3).trans g3
    have eo29 := (upd_ne (o := .dK (wkvs q1 ol2 q3 (limV wk.lim) wk.frees (.str wk.start))) (ne_of i2.oat e8 (by intro z; cases z))).trans i2.oat
    have ea29 := (upd_ne (o := .dK (wkvs q1 ol2 q3 (limV wk.lim) wk.frees (.str wk.start))) (ne_of i2.aat e8 (by intro z; cases z))).trans i2.aat
    have es9 := (upd_ne (o := .dK (wkvs q1 ol2 q3 (limV wk.lim) wk.frees (.str wk.start))) (ne_of eAk e8 (by intro z; cases z))).trans eAk
    generalize upd H8 d (.dK (wkvs q1 ol2 q3 (limV wk.lim) wk.frees (.str wk.start))) = H9 at T9 tx9 e9 eW9 eV9 g19 g29 g39 eo29 ea29 es9 ⊢
    have hsrc : All2 (PairAt H9) wk.anew _ := all2_pairs ha0 tx9
    have hoth := all2_pairs i2.o tx9
    have slen := hsrc.len
    walk_at "w_go"
    refine r_ilK (.of es9) ?_
    refine r_lcW walk_list wk.anew slen (fun x => !decide (x ∈ w2.out)) (fun x y H' => PairAt H' x y) (fun _ _ _ _ ⟨q1, z1, z2⟩ hh => ⟨q1, z1, hh _ _ z2⟩) (fun _ z => .of (z _ _ es9)) (by rw [PySem.sizeLine_eq, ← slen]; omega) (fun D j x y Hi Hj acc Kt Kf hD ha sI eD yy kt kf => ?_) (fun q5 ms H10 n10 s10 e10 hr10 => ?_)
    · obtain ⟨rfl, hx⟩ := yy
      obtain ⟨y', hy', fa, rfl, hfa⟩ := hsrc.left ha
      rw [hx] at hy'
      cases hy'
      have hfi := sI _ _ hfa
      have eVi := sI _ _ eV9
      have nfD : fa ≠ D := ne_of hfi eD (by intro z; cases z)
      refine ⟨wipe_set1, ?_⟩
      walk_at "w_go"
      refine r_notInPair (x := x) (l := w2.out) hfi (sI _ _ eo29) (all2_pairs hoth (tx_same sI)) ?_
      walk_at "w_go"
      by_cases hin : x ∈ w2.out
      · refine iteF' (by simp [hin]) ?_
        exact kf (by simp [hin]) _ (Same.refl _)
      · refine iteT' (by simp [hin]) ?_
        walk_at "w_go"
        exact kt (by simp [hin]) _ _ (Same.refl _) ⟨fa, rfl, hid_at nfD hfi⟩
    have e110 := s10 _ _ e9
    walk_at "w_go"
    refine r_dputK (kvs' := wkvs q1 ol2 q5 (limV wk.lim) wk.frees (.str wk.start)) e110 rfl (by rw [PySem.sizeLine_eq]; exact (by decide : 6 < 16777216)) ?_
    walk_at "w_go"
    refine iteF' (by decide +kernel) ?_
    walk_at "w_go"
    exact fin { wk with out := w2.out, anew := wk.anew.filter fun x => !decide (x ∈ w2.out) } q1 ol2 q5 gvs ovs2 ms H10 { hw with out := hw2.out, anew := List.filter_sublist.trans hw.anew, dis := fun x hx hy => by simpa [hx] using (List.mem_filter.mp hy).2 } (T9.same s10) (s10 _ _ g19) nd1 nq1p (s10 _ _ eo29) e10 (hg0.mono fun _ _ z => z.tx fun a xs h => s10 _ _ (tx9 _ _ h)) (all2_pairs hoth (tx_same s10)) hr10 _ e110
  · walk_at "w_go"
    refine r_dputK (kvs' := wkvs q1 q2 al2 (limV wk.lim) wk.frees (.str wk.start)) e8 rfl (by rw [PySem.sizeLine_eq]; exact (by decide : 6 < 16777216)) ?_
    have T9 : PenStep p c H (upd H8 d (.dK (wkvs q1 q2 al2 (limV wk.lim) wk.frees (.str wk.start)))) := T8.put hp n1
    have tx9 : Tx H8 (upd H8 d (.dK (wkvs q1 q2 al2 (limV wk.lim) wk.frees (.str wk.start)))) := tx_put fun zs e => by rw [e8] at e; cases e
    have e9 : (upd H8 d (.dK (wkvs q1 q2 al2 (limV wk.lim) wk.frees (.str wk.start)))) d = some (.dK (wkvs q1 q2 al2 (limV wk.lim) wk.frees (.str wk.start))) := upd_same
    have eW9 := (upd_ne (o := .dK (wkvs q1 q2 al2 (limV wk.lim) wk.frees (.str wk.start))) nWd).trans eWk
    have eV9 := (upd_ne (o := .dK (wkvs q1 q2 al2 (limV wk.lim) wk.frees (.str wk.start))) nd6).trans eW2
    have g19 := (upd_ne (o := .dK (wkvs q1 q2 al2 (limV wk.lim) wk.frees (.str wk.start))) nd1).trans g1
    have g29 := (upd_ne (o := .dK (wkvs q1 q2 al2 (limV wk.lim) wk.frees (.str wk.start))) nd2).trans g2
    have g39 := (upd_ne (o := .dK (wkvs q1 q2 al2 (limV wk.lim) wk.frees (.str wk.start))) nd3).trans g3
    have eo29 := (upd_ne (o := .dK (wkvs q1 q2 al2 (limV wk.lim) wk.frees (.str wk.start))) (ne_of i2.oat e8 (by intro z; cases z))).trans i2.oat
    have ea29 := (upd_ne (o := .dK (wkvs q1 q2 al2 (limV wk.lim) wk.frees (.str wk.start))) (ne_of i2.aat e8 (by intro z; cases z))).trans i2.aat
    have es9 := (upd_ne (o := .dK (wkvs q1 q2 al2 (limV wk.lim) wk.frees (.str wk.start))) (ne_of eOk e8 (by intro z; cases z))).trans eOk
    generalize upd H8 d (.dK (wkvs q1 q2 al2 (limV wk.lim) wk.frees (.str wk.start))) = H9 at T9 tx9 e9 eW9 eV9 g19 g29 g39 eo29 ea29 es9 ⊢
    have hsrc : All2 (PairAt H9) wk.out _ := all2_pairs ho0 tx9
    have hoth := all2_pairs i2.a tx9
    have slen := hsrc.len
    walk_at "w_go"
    refine iteF' (by decide +kernel) ?_
    walk_at "w_go"
    refine r_ilK (.of es9) ?_
    refine r_lcW walk_list wk.out slen (fun x => !decide (x ∈ w2.anew)) (fun x y H' => PairAt H' x y) (fun _ _ _ _ ⟨q1, z1, z2⟩ hh => ⟨q1, z1, hh _ _ z2⟩) (fun _ z => .of (z _ _ es9)) (by rw [PySem.sizeLine_eq, ← slen]; omega) (fun D j x y Hi Hj acc Kt Kf hD ha sI eD yy kt kf => ?_) (fun q5 ms H10 n10 s10 e10 hr10 => ?_)
    · obtain ⟨rfl, hx⟩ := yy
      obtain ⟨y', hy', fa, rfl, hfa⟩ := hsrc.left ha
      rw [hx] at hy'
      cases hy'
      have hfi := sI _ _ hfa
      have eVi := sI _ _ eV9
      have nfD : fa ≠ D := ne_of hfi eD (by intro z; cases z)
      refine ⟨wipe_set1, ?_⟩
      walk_at "w_go"
      refine r_notInPair (x := x) (l := w2.anew) hfi (sI _ _ ea29) (all2_pairs hoth (tx_same sI)) ?_
      walk_at "w_go"
      by_cases hin : x ∈ w2.anew
      · refine iteF' (by simp [hin]) ?_
        exact kf (by simp [hin]) _ (Same.refl _)
      · refine iteT' (by simp [hin]) ?_
        walk_at "w_go"
        exact kt (by simp [hin]) _ _ (Same.refl _) ⟨fa, rfl, hid_at nfD hfi⟩
    have e110 := s10 _ _ e9
    walk_at "w_go"
    refine r_dputK (kvs' := wkvs q1 q5 al2 (limV wk.lim) wk.frees (.str wk.start)) e110 rfl (by rw [PySem.sizeLine_eq]; exact (by decide : 6 < 16777216)) ?_
    walk_at "w_go"
    exact fin { wk with anew := w2.anew, out := wk.out.filter fun x => !decide (x ∈ w2.anew) } q1 q5 al2 gvs ms avs2 H10 { hw with anew := hw2.anew, out := List.filter_sublist.trans hw.out, dis := fun x hx hy => by simpa [hy] using (List.mem_filter.mp hx).2 } (T9.same s10) (s10 _ _ g19) nd1 nq1p e10 (s10 _ _ ea29) (hg0.mono fun _ _ z => z.tx fun a xs h => s10 _ _ (tx9 _ _ h)) hr10 (all2_pairs hoth (tx_same s10)) _ e110
  · walk_at "w_go"
    refine r_dputK (kvs' := wkvs q1 q2 q3 (limV w2.lim) wk.frees (.str wk.start)) e8 rfl (by rw [PySem.sizeLine_eq]; exact (by decide : 6 < 16777216)) ?_
    walk_at "w_go"
    refine iteF' (by decide +kernel) ?_
    walk_at "w_go"
    refine iteF' (by decide +kernel) ?_
    walk_at "w_go"
    exact fin { wk with lim := w2.lim } q1 q2 q3 gvs ovs avs H8 { hw with lim := hw2.lim } T8 g1 nd1 nq1p g2 g3 hg0 ho0 ha0 _ e8
  · walk_at "w_go"
    refine r_dputK (kvs' := wkvs q1 q2 q3 (limV wk.lim) w2.frees (.str wk.start)) e8 rfl (by rw [PySem.sizeLine_eq]; exact (by decide : 6 < 16777216)) ?_
    walk_at "w_go"
    refine iteF' (by decide +kernel) ?_
    walk_at "w_go"
    refine iteF' (by decide +kernel) ?_
    walk_at "w_go"
    exact fin { wk with frees := w2.frees } q1 q2 q3 gvs ovs avs H8 { hw with } T8 g1 nd1 nq1p g2 g3 hg0 ho0 ha0 _ e8
  · walk_at "w_go"
    refine r_dputK (kvs' := wkvs q1 q2 q3 (limV wk.lim) wk.frees (.str w2.start)) e8 rfl (by rw [PySem.sizeLine_eq]; exact (by decide : 6 < 16777216)) ?_
    walk_at "w_go"
    refine iteF' (by decide +kernel) ?_
    walk_at "w_go"
    refine iteF' (by decide +kernel) ?_
    walk_at "w_go"
    exact fin { wk with start := w2.start } q1 q2 q3 gvs ovs avs H8 { hw with st := hw2.st, un := hw2.un } T8 g1 nd1 nq1p g2 g3 hg0 ho0 ha0 _ e8
end
end Wm
namespace Wm
open PySem L2
open PySem.W (Datum)

section
variable {P : Program} {w : World} {K : PySem.W.Frag} {mg : Str → Option Value} {base : Heap} {ad : Ad}
theorem ok_l_turned (T : Txt P K mg ad) : FnOk P w K mg base (L2.CX P w) 4 ad.l_turned ad.fd_l_turned ["_law_pen_here", "_law_rows_here"] spTurned2 := by
  refine T.F_l_turned.okX sc_l_turned (fun vs H Q E h => ?_) (fun cdv A outer s H vs Q E hr h => ?_)
  · obtain ⟨p, c, L, rows, rfl, _⟩ := h
    rfl
  obtain ⟨p, c, L, rows, rfl, hp, hR, hok, k⟩ := h
  refine ⟨_, (pss_cons (ps_set (i := 2) sc_l_turned.nd rfl (Or.inl rfl) (pe_lst pa_nil))
    (pss_cons (ps_for (passes_of rfl) rfl (pi_list (pv 1)) (pg_name (i := 3) sc_l_turned.nd rfl (Or.inl rfl)) (pss_cons (ps_set (i := 4) sc_l_turned.nd rfl (Or.inl rfl) (pe_lst pa_nil))
    (pss_cons (ps_for (passes_of rfl) rfl (pi_tup (pe_ix ix_tup (pv 3) pe_int (fun _ _ => rfl))) (pg_name (i := 5) sc_l_turned.nd rfl (Or.inl rfl)) (pss_cons (ps_set (i := 6) sc_l_turned.nd rfl (Or.inl rfl) (pe_ifExp (PW.pt (pw_and (pt_cmpR op_eq (pe_ix ix_tup (pv 5) pe_int (fun _ _ => rfl)) pe_str (nomark _)) (pw_and1 (pt_val (pe_call (ok_l_bit T) hr rfl T.g_l_bit T.F_l_bit.kp T.b_l_bit .nil passL (pa_cons (pv 0) (pa_cons pe_int pa_nil))))))) pe_str (pe_ix ix_tup (pv 5) pe_int (fun _ _ => rfl))))
    (pss_one (ps_expr (pe_bm PySem.F.plainAttrs_list PySem.F.slot_list_append PySem.F.type_list_append mt_append (pv 4) (pa_cons (pe_tup (pa_cons (pe_ix ix_tup (pv 5) pe_int (fun _ _ => rfl)) (pa_cons (pv 6) (pa_cons (pe_ix ix_tup (pv 5) pe_int (fun _ _ => rfl)) pa_nil)))) pa_nil))))))
    (pss_one (ps_expr (pe_bm PySem.F.plainAttrs_list PySem.F.slot_list_append PySem.F.type_list_append mt_append (pv 2) (pa_cons (pe_tup (pa_cons (pe_ix ix_tup (pv 3) pe_int (fun _ _ => rfl)) (pa_cons (pe_ix ix_tup (pv 3) pe_int (fun _ _ => rfl)) (pa_cons (pe_ix ix_tup (pv 3) pe_int (fun _ _ => rfl)) (pa_cons (pe_callTy c_tuple (by rfl) T.n_tuple (by decide +kernel) (pa_cons (pv 4) pa_nil)) pa_nil))))) pa_nil)))))))
    (pss_one (ps_ret (pv 2))))), ?_⟩
  rw [show L2.start ["_law_pen_here", "_law_rows_here", "_law_turned_here", "_law_row", "_law_fields_here", "_law_field", "_law_mode"] [V.ref p, V.ref L] = [some (V.ref p), some (V.ref L), none, none, none, none, none] from rfl]
  obtain ⟨rvs, eL, hrvs⟩ := id hR
  have hfew := hok.few
  have rlen := hrvs.len
  walk_at "w_go"
  rename_i qo H1 n1 s1 e1
  have T1 := (PenStep.refl hp).same s1
  refine r_ilK (.of (s1 _ _ eL)) (for_list (K := K) (a := L) (xs := rvs) (fun i σ H' => ∃ v3 v4 v5 v6 : Option V, ∃ (ms : List Row) (ys : List V), σ = [some (.ref p), some (.ref L), some (.ref qo), v3, v4, v5, v6] ∧ PenStep p c H H' ∧ H' qo = some (.lst ys) ∧ All2 (RowAt H') ms ys ∧ All2 RowLike (rows.take i) ms) ⟨_, _, _, _, [], [], rfl, T1, e1, .nil, .nil⟩ ?_ ?_ ?_)
  · rintro i σ H' _ ⟨v3, v4, v5, v6, ms, ys, rfl, t, _⟩
    exact .of (t.at hp eL rfl)
  · rintro i x σ H4 hi ⟨v3, v4, v5, v6, ms, ys, rfl, T4, eo4, hms, hlk⟩
    obtain ⟨r, hri, ra, bv, ov, rfl, er, hbs, ⟨oa, ovs, rfl, eoa, hov⟩⟩ := hrvs.right hi
    have hp4 := T4.pen
    have er4 := T4.at hp er rfl
    have hrm := List.mem_of_getElem? hri
    obtain ⟨kk, hkk⟩ := List.mem_iff_getElem?.mp hrm
    have ro := hok.ok kk r hkk
    have hol := hok.ok.own_len hrm
    have olen := hov.len
    walk_at "w_go"
    rename_i qf H5 n5 s5 e5
    have T5 := T4.same s5
    have nfo : qf ≠ qo := fun z => by rw [z, eo4] at n5; cases n5
    have n5' : H qf = none := T4.free n5
    refine r_itK (.of (T5.at hp eoa rfl)) (for_tup (K := K) (a := oa) (xs := ovs) (fun j σ H' => ∃ v5 v6 : Option V, ∃ (fs : List Fld) (zs : List V), σ = [some (.ref p), some (.ref L), some (.ref qo), some (.ref ra), some (.ref qf), v5, v6] ∧ PenStep p c H H' ∧ H' qo = some (.lst ys) ∧ All2 (RowAt H') ms ys ∧ H' qf = some (.lst zs) ∧ All2 (FldAt H') fs zs ∧ fs.map (fun f => (f.1, f.2.2)) = (r.own.take j).map (fun f => (f.1, f.2.2)) ∧ ∀ f, f ∈ fs → f.2.1 ∈ MODESl) ⟨_, _, [], [], rfl, T5, s5 _ _ eo4, all2_rows hms (tx_same s5), e5, .nil, rfl, fun f h => by cases h⟩ ?_ ?_ ?_)
    · rintro j σ H' _ ⟨v5, v6, fs, zs, rfl, t, _⟩
      exact .of (t.at hp eoa rfl)
    · rintro j x σ H6 hj ⟨v5, v6, fs, zs, rfl, T6, eo6, hm6, ef6, hf6, hlike, hmd⟩
      obtain ⟨f, hfj, fa, rfl, efa⟩ := hov.right hj
      have hfm := List.mem_of_getElem? hfj
      have hfo := ro.own f hfm
      have hp6 := T6.pen
      have ef6a := T6.at hp efa rfl
      have hjl := (List.getElem?_eq_some_iff.mp hfj).1
      have zl : zs.length ≤ 4 := by
        rw [← hf6.len]
        have := congrArg List.length hlike
        rw [List.length_map, List.length_map, List.length_take] at this
        omega
      have step : ∀ (m : Str) (H7 : Hp), m ∈ MODESl → PenStep p c H6 H7 → ∀ (qt : Addr) (H8 : Hp), H7 qt = none → Same H7 H8 → H8 qt = some (.tup [.str f.1, .str m, .str f.2.2]) →
          PenStep p c H (upd H8 qf (.lst (zs ++ [V.ref qt]))) ∧ (upd H8 qf (.lst (zs ++ [V.ref qt]))) qo = some (.lst ys) ∧ All2 (RowAt (upd H8 qf (.lst (zs ++ [V.ref qt])))) ms ys ∧ (upd H8 qf (.lst (zs ++ [V.ref qt]))) qf = some (.lst (zs ++ [V.ref qt])) ∧ All2 (FldAt (upd H8 qf (.lst (zs ++ [V.ref qt])))) (fs ++ [(f.1, m, f.2.2)]) (zs ++ [V.ref qt]) ∧ (fs ++ [(f.1, m, f.2.2)]).map (fun f => (f.1, f.2.2)) = (r.own.take (j + 1)).map (fun f => (f.1, f.2.2)) ∧ ∀ f', f' ∈ fs ++ [(f.1, m, f.2.2)] → f'.2.1 ∈ MODESl := by
        intro m H7 hm t7 qt H8 n8 s8 e8
        have eq8 := s8 _ _ (t7.at hp6 ef6 rfl)
        have tU : Tx H8 (upd H8 qf (.lst (zs ++ [V.ref qt]))) := tx_lst eq8
        have tA : Tx H6 (upd H8 qf (.lst (zs ++ [V.ref qt]))) := fun a xs h => tU _ _ (s8 _ _ (tx_step hp6 t7 _ _ h))
        refine ⟨((T6.trans t7).same s8).put hp n5', (upd_ne (Ne.symm nfo)).trans (s8 _ _ (t7.at hp6 eo6 rfl)), all2_rows hm6 tA, upd_same, all2_app (hf6.mono fun _ _ z => z.tx tA) (.cons ⟨qt, rfl, tU _ _ e8⟩ .nil), ?_, fun f' hf' => ?_⟩
        · rw [List.map_append, hlike, take_more hfj, List.map_append]
          rfl
        · rcases List.mem_append.mp hf' with h | h
          · exact hmd f' h
          · rw [List.mem_singleton] at h
            subst h
            exact hm
      walk_at "w_go"
      by_cases h1 : f.2.1 = "one"
      · refine iteT' (by simp [h1]) ?_
        walk_at "w_go"
        refine ⟨p, c, 3, rfl, hp6, by decide, by decide, fun b H7 t7 => ?_⟩
        have ef7a := t7.at hp6 ef6a rfl
        have ef7 := t7.at hp6 ef6 rfl
        refine ⟨b, rfl, ?_⟩
        cases b with
        | true =>
          refine iteT' rfl ?_
          walk_at "w_go"
          rename_i qt H8 n8 s8 e8
          refine r_append (s8 _ _ ef7) (by rw [PySem.sizeLine_eq]; omega) ?_
          exact ⟨_, _, _, _, rfl, step "many" H7 (by decide +kernel) t7 qt H8 n8 s8 e8⟩
        | false =>
          refine iteF' rfl ?_
          walk_at "w_go"
          rename_i qt H8 n8 s8 e8
          refine r_append (s8 _ _ ef7) (by rw [PySem.sizeLine_eq]; omega) ?_
          exact ⟨_, _, _, _, rfl, step f.2.1 H7 hfo.2.1 t7 qt H8 n8 s8 e8⟩
      · refine iteF' (by simp [h1]) ?_
        walk_at "w_go"
        rename_i qt H8 n8 s8 e8
        refine r_append (s8 _ _ ef6) (by rw [PySem.sizeLine_eq]; omega) ?_
        exact ⟨_, _, _, _, rfl, step f.2.1 H6 hfo.2.1 (PenStep.refl hp6) qt H8 n8 s8 e8⟩
    · rintro σ H6 ⟨v5, v6, fs, zs, rfl, T6, eo6, hm6, ef6, hf6, hlike, hmd⟩
      rw [← olen, List.take_length] at hlike
      have er6 := T6.at hp er rfl
      walk_at "w_go"
      refine r_tupL (.of ef6) (fun qt nt => ?_)
      have st : Same H6 (upd H6 qt (.tup zs)) := same_new nt
      have et : (upd H6 qt (.tup zs)) qt = some (.tup zs) := upd_same
      generalize upd H6 qt (.tup zs) = H7 at st et
      have er7 := st _ _ er6
      walk_at "w_go"
      rename_i qr H8 n8 s8 e8
      have yl : ys.length ≤ 6 := by
        rw [← hm6.len, ← hlk.len, List.length_take]
        omega
      have s68 := st.trans s8
      have eo8 := s68 _ _ eo6
      refine r_append eo8 (by rw [PySem.sizeLine_eq]; omega) ?_
      have tU : Tx H8 (upd H8 qo (.lst (ys ++ [V.ref qr]))) := tx_lst eo8
      have tA : Tx H6 (upd H8 qo (.lst (ys ++ [V.ref qr]))) := fun a xs h => tU _ _ (s68 _ _ h)
      have t0 : Tx H (upd H8 qo (.lst (ys ++ [V.ref qr]))) := fun a xs h => tA _ _ (tx_step hp T6 _ _ h)
      have rw8 : RowAt (upd H8 qo (.lst (ys ++ [V.ref qr]))) { r with own := fs } (.ref qr) := ⟨qr, bv, .ref qt, rfl, tU _ _ e8, hbs.tx t0, ⟨qt, zs, rfl, tU _ _ (s8 _ _ et), hf6.mono fun _ _ z => z.tx tA⟩⟩
      refine ⟨_, _, _, _, ms ++ [{ r with own := fs }], _, rfl, (T6.same s68).put hp n1, upd_same, all2_app (all2_rows hm6 tA) (.cons rw8 .nil), ?_⟩
      rw [take_more hri]
      exact all2_app hlk (.cons ⟨rfl, rfl, rfl, hlike, hmd⟩ .nil)
  · rintro σ H4 ⟨v3, v4, v5, v6, ms, ys, rfl, T4, eo4, hms, hlk⟩
    rw [← rlen, List.take_length] at hlk
    walk_at "w_go"
    exact k qo ms H4 T4 n1 ⟨ys, eo4, hms⟩ hlk
end
end Wm
namespace Wm
open PySem L2
open PySem.W (Datum)

section
variable {P : Program} {w : World} {K : PySem.W.Frag} {mg : Str → Option Value} {base : Heap} {ad : Ad}
theorem ite_ff {c : Bool} {A B : Prop} (h : c = false) (q : B) : if c = true then A else B := by
  rw [h]
  simpa using q
theorem ok_law (T : Txt P K mg ad) : FnC P w K mg base (L2.CX P w) 13 ad.law ad.fd_law ["_law_script"] (spLaw K) := by
  refine okC T.F_law sc_law (fun vs H Q E h => ?_) (fun cdv A outer s H vs Q E hgd hr h => ?_)
  · obtain ⟨a, ns, rfl, _⟩ := h
    rfl
  obtain ⟨a, ns, rfl, hS, k⟩ := h
  refine ⟨_, (pss_cons (ps_set (i := 1) sc_law.nd rfl (Or.inl rfl) (pe_call (ok_l_pen T) (hr.mono (by decide)) rfl T.g_l_pen T.F_l_pen.kp T.b_l_pen .nil passL (pa_cons (pv 0) pa_nil)))
    (pss_cons (ps_for (passes_of rfl) rfl (pi_range1 rfl T.n_range (pa_cons pe_int pa_nil)) (pg_name (i := 2) sc_law.nd rfl (Or.inl rfl)) (pss_cons (ps_set (i := 3) sc_law.nd rfl (Or.inl rfl) (pe_call (ok_l_rows T) (hr.mono (by decide)) rfl T.g_l_rows T.F_l_rows.kp T.b_l_rows .nil passL (pa_cons (pv 1) (pa_cons pe_int pa_nil))))
    (pss_cons (ps_set (i := 4) sc_law.nd rfl (Or.inl rfl) (pe_call (ok_l_walker T) (hr.mono (by decide)) rfl T.g_l_walker T.F_l_walker.kp T.b_l_walker .nil passL (pa_cons (pv 1) (pa_cons (pv 3) pa_nil))))
    (pss_cons (ps_set (i := 5) sc_law.nd rfl (Or.inl rfl) (pe_lst (pa_cons (pe_tup (pa_cons (pv 3) (pa_cons (pv 4) pa_nil))) (pa_cons (pe_tup (pa_cons (pv 3) (pa_cons (pe_call (ok_l_one_part T) (hr.mono (by decide)) rfl T.g_l_one_part T.F_l_one_part.kp T.b_l_one_part .nil passL (pa_cons (pv 1) (pa_cons (pv 3) (pa_cons (pv 4) pa_nil)))) pa_nil))) (pa_cons (pe_tup (pa_cons (pe_call (ok_l_turned T) (hr.mono (by decide)) rfl T.g_l_turned T.F_l_turned.kp T.b_l_turned .nil passL (pa_cons (pv 1) (pa_cons (pv 3) pa_nil))) (pa_cons (pv 4) pa_nil))) pa_nil)))))
    (pss_cons (ps_expr (pe_bm PySem.F.plainAttrs_list PySem.F.slot_list_append PySem.F.type_list_append mt_append (pv 5) (pa_cons (pe_tup (pa_cons (pe_callTy c_list (by rfl) T.n_list (by decide +kernel) (pa_cons (pv 3) pa_nil)) (pa_cons (pe_call (ok_l_one_part T) (hr.mono (by decide)) rfl T.g_l_one_part T.F_l_one_part.kp T.b_l_one_part .nil passL (pa_cons (pv 1) (pa_cons (pv 3) (pa_cons (pv 4) pa_nil)))) pa_nil))) pa_nil)))
    (pss_cons (ps_setLc (i := 6) (own := [("_law_one", 7)]) (g := gName 7) (tt := tYes) rfl sc_law.nd rfl rfl (sw_true rfl rfl rfl (by decide +kernel)) (pi_list (pv 5)) (blkOk_by (own := [("_law_one", 7)]) (N := ["_law_script", "_law_pen_here", "_law_turn", "_law_rows_here", "_law_walker_here", "_law_plain", "_law_made", "_law_one", "_law_k", "_law_n", "_law_due", "_law_thing"]) (sc := defScope s_law) (by decide +kernel)) (fun _ _ _ _ _ => pg_name (i := 7) sc_law.nd rfl (Or.inl rfl)) (fun _ _ _ _ _ => pts_nil) (fun _ _ _ _ _ => (pe_call (ok_l_walker_made T) (hr.mono (by decide)) rfl T.g_l_walker_made T.F_l_walker_made.kp T.b_l_walker_made .nil passL (pa_cons (pe_make T.mk_Schema (ok_Schema_init T) (hr.mono (by decide)) rfl T.g_Schema T.b_Schema_init .nil passL (pa_cons (pe_ix (ix_tup : IxR _ (rIxT K)) (pv 7) pe_int (fun _ _ => rfl)) pa_nil)) (pa_cons (pe_ix (ix_tup : IxR _ (rIxT K)) (pv 7) pe_int (fun _ _ => rfl)) pa_nil)))))
    (pss_one (ps_for (passes_of rfl) rfl (pi_range1 rfl T.n_range (pa_cons (pe_callB c_len (by rfl) T.n_len PySem.boot_len (pa_cons (pv 5) pa_nil)) pa_nil)) (pg_name (i := 8) sc_law.nd rfl (Or.inl rfl)) (pss_cons (ps_for (passes_of rfl) rfl (pi_range1 rfl T.n_range (pa_cons (pe_callB c_len (by rfl) T.n_len PySem.boot_len (pa_cons (pv 5) pa_nil)) pa_nil)) (pg_name (i := 9) sc_law.nd rfl (Or.inl rfl)) (pss_cons (ps_set (i := 10) sc_law.nd rfl (Or.inl rfl) (pe_cmpR op_eq (pe_callC (ok_l_key T) hgd (hr.mono (by decide)) rfl T.g_l_key T.F_l_key.kp T.b_l_key passL (pa_cons (pe_ix ix_tup (pe_ix ix_list (pv 5) (pv 8) (fun _ _ => rfl)) pe_int (fun _ _ => rfl)) (pa_cons (pe_ix ix_tup (pe_ix ix_list (pv 5) (pv 8) (fun _ _ => rfl)) pe_int (fun _ _ => rfl)) pa_nil))) (pe_callC (ok_l_key T) hgd (hr.mono (by decide)) rfl T.g_l_key T.F_l_key.kp T.b_l_key passL (pa_cons (pe_ix ix_tup (pe_ix ix_list (pv 5) (pv 9) (fun _ _ => rfl)) pe_int (fun _ _ => rfl)) (pa_cons (pe_ix ix_tup (pe_ix ix_list (pv 5) (pv 9) (fun _ _ => rfl)) pe_int (fun _ _ => rfl)) pa_nil))) (nomark _)))
    (pss_one (ps_if (PW.pt (pw_or (pt_cmpR op_ne (pe_cmpR (op_eqOwn (ok_Walker_eqA T) (hr.mono (by decide)) T.me_Walker_eq T.b_Walker_eq passL) (pe_ix ix_list (pv 6) (pv 8) (fun _ _ => rfl)) (pe_ix ix_list (pv 6) (pv 9) (fun _ _ => rfl)) (nomark _)) (pv 10) (nomark _)) (pw_or1 (pt_cmpR op_eq (pe_cmpR (op_neOwn (ok_Walker_eqA T) (hr.mono (by decide)) T.me_Walker_eq T.nc_Walker T.b_Walker_eq passL) (pe_ix ix_list (pv 6) (pv 8) (fun _ _ => rfl)) (pe_ix ix_list (pv 6) (pv 9) (fun _ _ => rfl)) (nomark _)) (pv 10) (nomark _))))) (pss_one (ps_ret pe_bl)) pss_nil))))
    (pss_one (ps_for (passes_of rfl) rfl (pi_list (pe_lst (pa_cons pe_non (pa_cons (pe_callTy (c_strOwn (ok_Walker_str T) (hr.mono (by decide)) T.me_Walker_str T.b_Walker_str passL) (by rfl) T.n_str (by decide +kernel) (pa_cons (pe_ix ix_list (pv 6) (pv 8) (fun _ _ => rfl)) pa_nil)) (pa_cons pe_int (pa_cons (pe_tup pa_nil) (pa_cons (pe_fld (pe_ix ix_list (pv 6) (pv 8) (fun _ _ => rfl)) rfl) pa_nil))))))) (pg_name (i := 11) sc_law.nd rfl (Or.inl rfl)) (pss_one (ps_if (pt_cmpR (op_eqOwn (ok_Walker_eqA T) (hr.mono (by decide)) T.me_Walker_eq T.b_Walker_eq passL) (pe_ix ix_list (pv 6) (pv 8) (fun _ _ => rfl)) (pv 11) (nomark _)) (pss_one (ps_ret pe_bl)) pss_nil)))))))))))))
    (pss_one (ps_ret pe_bl)))), ?_⟩
  rw [show L2.start ["_law_script", "_law_pen_here", "_law_turn", "_law_rows_here", "_law_walker_here", "_law_plain", "_law_made", "_law_one", "_law_k", "_law_n", "_law_due", "_law_thing"] [V.ref a] = [some (V.ref a), none, none, none, none, none, none, none, none, none, none, none] from rfl]
  walk_at "w_go"
  refine ⟨a, ns, rfl, hS, fun p c H1 hp s1 n1 => ?_⟩
  walk_at "w_go"
  refine ⟨3, rfl, by decide, by decide, ?_⟩
  refine for_range (lo := 0) (n := 3) (fun _ σ H' => ∃ v2 v3 v4 v5 v6 v8 v9 v10 v11 : Option V, σ = [some (.ref a), some (.ref p), v2, v3, v4, v5, v6, none, v8, v9, v10, v11] ∧ PenAt H' p c) ⟨_, _, _, _, _, _, _, _, _, rfl, hp⟩ ?_ ?_
  · rintro i σ H2 hi ⟨v2, v3, v4, v5, v6, v8, v9, v10, v11, rfl, hp2⟩
    clear hp s1 n1 hS
    walk_at "w_go"
    refine ⟨p, c, 6, rfl, hp2, by decide, by decide, fun rows L H3 t3 n3 hR3 hok => ?_⟩
    have hp3 := t3.pen
    clear t3 n3 hp2
    walk_at "w_go"
    refine ⟨p, c, L, rows, rfl, hp3, hR3, hok, fun wk W H4 hw t4 n4 hW4 => ?_⟩
    have hp4 := t4.pen
    have hR4 := hR3.step hp3 t4
    have d1 : PlnAt p H4 (L, W, rows, wk) := ⟨hR4, hok, hW4, hw⟩
    clear t4 n4 hp3 hR3
    walk_at "w_go"
    rename_i q1 H5 n5 s5 e5
    have hp5 := hp4.same s5
    refine ⟨p, c, L, W, rows, wk, rfl, hp5, hR4.same s5, hok, hW4.same s5, hw, fun w2 W2 H6 hw2 t6 n6 hW6 => ?_⟩
    have hp6 := t6.pen
    have d1' := (d1.same s5).step hp5 t6
    have e16 := t6.at hp5 e5 rfl
    have d2 : PlnAt p H6 (L, W2, rows, w2) := ⟨d1'.rw, hok, hW6, hw2⟩
    clear d1 hR4 hW4 s5 e5 n5 hp4 t6 n6 hW6 hp5
    walk_at "w_go"
    rename_i q2 H7 n7 s7 e7
    have hp7 := hp6.same s7
    refine ⟨p, c, L, rows, rfl, hp7, d1'.rw.same s7, hok, fun L2 more H8 t8 n8 hR8 hlk => ?_⟩
    have hp8 := t8.pen
    have d18 := (d1'.same s7).step hp7 t8
    have d28 := (d2.same s7).step hp7 t8
    have e18 := t8.at hp7 (s7 _ _ e16) rfl
    have e28 := t8.at hp7 e7 rfl
    have d38 : PlnAt p H8 (L2, W, more, wk) := ⟨hR8, sch_like hlk hok, d18.wk, hw.like hlk⟩
    clear d1' d2 e16 e7 s7 n7 hp7 hp6 t8 n8 hR8
    walk_at "w_go"
    rename_i q3 H9 n9 s9 e9 qp H10 n10 s10 e10
    have s810 := s9.trans s10
    have hp10 := hp8.same s810
    have hR10 := d18.rw.same s810
    have hW10 := d18.wk.same s810
    have f3 := s10 _ _ e9
    have n8p : H8 qp = none := s9.free n10
    have f1' := s810 _ _ e18
    obtain ⟨rvs, eL, hrvs⟩ := id hR10
    clear e9 s9 s10 n9
    walk_at "w_go"
    rename_i q4 H11 n11 s11 e11
    have n4p : q4 ≠ qp := fun z => by rw [z, e10] at n11; cases n11
    have hp11 := hp10.same s11
    refine ⟨p, c, L, W, rows, wk, rfl, hp11, hR10.same s11, hok, hW10.same s11, hw, fun w3 W3 H12 hw3 t12 n12 hW12 => ?_⟩
    have T12 := ((PenStep.refl hp8).same (s810.trans s11)).trans t12
    have e412 := t12.at hp11 e11 rfl
    have ep12 := t12.at hp11 (s11 _ _ e10) rfl
    have f312 := t12.at hp11 (s11 _ _ f3) rfl
    have f112 := t12.at hp11 (s11 _ _ f1') rfl
    have hr12 := all2_rows hrvs (fun a xs h => tx_step hp11 t12 _ _ (s11 _ _ h))
    clear hR10 hW10 eL hrvs s11 e11 n11 t12 n12 f3 f1' e10 n10 s810 hp10 hp11
    walk_at "w_go"
    rename_i q5 H13 n13 s13 e13
    have ep13 := s13 _ _ ep12
    have T14 : PenStep p c H8 (upd H13 qp (.lst ([V.ref q1, V.ref q2, V.ref q3] ++ [V.ref q5]))) := (T12.same s13).put hp8 n8p
    have tU : Tx H13 (upd H13 qp (.lst ([V.ref q1, V.ref q2, V.ref q3] ++ [V.ref q5]))) := tx_lst ep13
    have g3 := tU _ _ (s13 _ _ f312)
    have g4 := tU _ _ e13
    have d44 : PlnAt p (upd H13 qp (.lst ([V.ref q1, V.ref q2, V.ref q3] ++ [V.ref q5]))) (q4, W3, rows, w3) := ⟨⟨rvs, (upd_ne n4p).trans (s13 _ _ e412), all2_rows hr12 fun a xs h => tU _ _ (s13 _ _ h)⟩, hok, (hW12.same s13).putL ep13 (s13 _ _ f112), hw3⟩
    have ep14 : (upd H13 qp (.lst ([V.ref q1, V.ref q2, V.ref q3] ++ [V.ref q5]))) qp = some (.lst [V.ref q1, V.ref q2, V.ref q3, V.ref q5]) := upd_same
    generalize upd H13 qp (.lst ([V.ref q1, V.ref q2, V.ref q3] ++ [V.ref q5])) = H14 at T14 g3 g4 d44 ep14 ⊢
    have hp14 := T14.pen
    have g1 := T14.at hp8 e18 rfl
    have g2 := T14.at hp8 e28 rfl
    have d14 := d18.step hp8 T14
    have d24 := d28.step hp8 T14
    have d34 := d38.step hp8 T14
    clear e412 ep12 f312 f112 hr12 ep13 tU n13 s13 e13 T12 T14 d18 d28 d38 e18 e28 hp8 n8p hW12
    have hd : All2 (PtAt H14) [(L, W, rows, wk), (L, W2, rows, w2), (L2, W, more, wk), (q4, W3, rows, w3)] [V.ref q1, V.ref q2, V.ref q3, V.ref q5] := .cons ⟨q1, rfl, g1⟩ (.cons ⟨q2, rfl, g2⟩ (.cons ⟨q3, rfl, g3⟩ (.cons ⟨q5, rfl, g4⟩ .nil)))
    have hD : ∀ d, d ∈ [(L, W, rows, wk), (L, W2, rows, w2), (L2, W, more, wk), (q4, W3, rows, w3)] → PlnAt p H14 d := fun d hm => by
      simp only [List.mem_cons, List.not_mem_nil, or_false] at hm
      rcases hm with rfl | rfl | rfl | rfl
      · exact d14
      · exact d24
      · exact d34
      · exact d44
    have hdl : ([(L, W, rows, wk), (L, W2, rows, w2), (L2, W, more, wk), (q4, W3, rows, w3)] : List Pln).length = 4 := rfl
    generalize [(L, W, rows, wk), (L, W2, rows, w2), (L2, W, more, wk), (q4, W3, rows, w3)] = ds at hd hD hdl
    generalize [V.ref q1, V.ref q2, V.ref q3, V.ref q5] = ts at hd ep14
    have htl := hd.len
    clear d14 d24 d34 d44 g1 g2 g3 g4
    refine r_ilK (.of ep14) ?_
    refine r_lcW walk_list ds htl (fun _ => true) (fun d y H' => MdAt ad.Kind ad.Schema ad.Walker ad.Guard H' d y) (fun _ _ _ _ h hh => h.same hh) (fun _ z => .of (z _ _ ep14)) (by rw [PySem.sizeLine_eq]; omega) (fun D j d y Hi Hj acc Kt Kf hD2 ha sI eD yy kt kf => ?_) (fun qm ms H15 n15 s15 e15 hr15 => ?_)
    · obtain ⟨rfl, hx⟩ := yy
      obtain ⟨y', hy', t, rfl, et⟩ := hd.left ha
      rw [hx] at hy'
      cases hy'
      have eti := sI _ _ et
      have dd := (hD d (List.mem_of_getElem? ha)).same sI
      refine ⟨wipe_set1, ?_⟩
      walk_at "w_go"
      rename_i S dx H16 n16 s16 e16
      refine ⟨S, dx, d.1, d.2.2.1, rfl, e16, dd.rw.same s16, dd.ok, fun H17 b17 sc17 nd17 => ?_⟩
      have s17 : Same Hj H17 := same_but n16 s16 b17
      have eti17 := s17 _ _ eti
      walk_at "w_go"
      refine ⟨S, d.2.1, p, d.2.2.1, d.2.2.2, rfl, sc17, dd.ok, dd.wk.same s17, dd.wo, fun m H18 s18 n18 wm => ?_⟩
      have eD18 := (s17.trans s18) _ _ eD
      exact kt rfl _ _ (s17.trans s18) ⟨S, m, rfl, wm.hid eD18, (sc17.same s18).hid eD18⟩
    rw [List.filter_eq_self.mpr (fun _ _ => rfl)] at hr15
    have hp15 := hp14.same s15
    have ep15 := s15 _ _ ep14
    have hd15 : All2 (PtAt H15) ds ts := hd.mono fun _ _ ⟨t, z1, z2⟩ => ⟨t, z1, s15 _ _ z2⟩
    have hD15 : ∀ d, d ∈ ds → PlnAt p H15 d := fun d hm => (hD d hm).same s15
    have hml := hr15.len
    clear hd hD ep14 hp14 s15 n15
    have look : ∀ k, k < ts.length → ∃ (d : Pln) (t S m : Addr), d ∈ ds ∧ atI ts (0 + (k : Int)) = some (.ref t) ∧ H15 t = some (.tup [.ref d.1, .ref d.2.1]) ∧ atI ms (0 + (k : Int)) = some (.ref m) ∧ WkrAt ad.Walker ad.Guard H15 S d.2.2.2 m ∧ SchAt ad.Kind ad.Schema H15 d.2.2.1 S := fun k hk => by
      obtain ⟨d, hdk⟩ : ∃ d, ds[k]? = some d := ⟨_, List.getElem?_eq_getElem (by omega)⟩
      obtain ⟨y, hy, t, rfl, et⟩ := hd15.left hdk
      obtain ⟨z, hz, S, m, rfl, h1, h2⟩ := hr15.left hdk
      exact ⟨d, t, S, m, List.mem_of_getElem? hdk, by rw [Int.zero_add]; exact atI_nat hy, et, by rw [Int.zero_add]; exact atI_nat hz, h1, h2⟩
    walk_at "w_go"
    refine ⟨ts.length, rfl, by omega, by omega, ?_⟩
    refine for_range (lo := 0) (n := ts.length) (fun _ σ H' => ∃ v8 v9 v10 v11 : Option V, σ = [some (.ref a), some (.ref p), some (.int (0 + (i : Int))), some (.ref L), some (.ref W), some (.ref qp), some (.ref qm), none, v8, v9, v10, v11] ∧ Same H15 H') ⟨_, _, _, _, rfl, Same.refl _⟩ ?_ ?_
    · rintro k1 σ H16 hk1 ⟨v8, v9, v10, v11, rfl, s16⟩
      obtain ⟨d1, t1, S1, m1, hm1, at1, et1, am1, wm1, sc1⟩ := look k1 hk1
      have D1 := hD15 d1 hm1
      have ep16 := s16 _ _ ep15
      walk_at "w_go"
      refine ⟨ts.length, rfl, by omega, by omega, ?_⟩
      refine for_range (lo := 0) (n := ts.length) (fun _ σ H' => ∃ v9 v10 : Option V, σ = [some (.ref a), some (.ref p), some (.int (0 + (i : Int))), some (.ref L), some (.ref W), some (.ref qp), some (.ref qm), none, some (.int (0 + (k1 : Int))), v9, v10, v11] ∧ Same H15 H') ⟨_, _, rfl, s16⟩ ?_ ?_
      · rintro k2 σ H17 hk2 ⟨v9, v10, rfl, s17⟩
        obtain ⟨d2, t2, S2, m2, hm2, at2, et2, am2, wm2, sc2⟩ := look k2 hk2
        have D2 := hD15 d2 hm2
        have ep17 := s17 _ _ ep15
        have et17 := s17 _ _ et1
        walk_at "w_go"
        refine r_ixLK ep17 at1 ?_
        walk_at "w_go"
        refine r_ixLK ep17 at1 ?_
        walk_at "w_go"
        refine ⟨d1.1, d1.2.1, p, d1.2.2.1, d1.2.2.2, rfl, D1.rw.same s17, D1.ok, D1.wk.same s17, D1.wo, fun H18 s18 => ?_⟩
        have s1518 := s17.trans s18
        have ep18 := s18 _ _ ep17
        have et18 := s1518 _ _ et2
        walk_at "w_go"
        refine r_ixLK ep18 at2 ?_
        walk_at "w_go"
        refine r_ixLK ep18 at2 ?_
        walk_at "w_go"
        refine ⟨d2.1, d2.2.1, p, d2.2.2.1, d2.2.2.2, rfl, D2.rw.same s1518, D2.ok, D2.wk.same s1518, D2.wo, fun H19 s19 => ?_⟩
        have s1519 := s1518.trans s19
        have em19 := s1519 _ _ e15
        have hkey := key_eq D1.ok D1.wo D2.ok D2.wo
        walk_at "w_go"
        have wm1' := wm1.same s1519
        have wm2' := wm2.same s1519
        have sc1' := sc1.same s1519
        have sc2' := sc2.same s1519
        clear ep18 et18 et17 ep17
        obtain ⟨dx1, gt1, ot1, nt1, gvs1, ovs1, nvs1, iw1⟩ := id wm1'
        obtain ⟨dx2, gt2, ot2, nt2, gvs2, ovs2, nvs2, iw2⟩ := id wm2'
        refine r_ixLK em19 am1 ?_
        walk_at "w_go"
        refine r_ixLK em19 am2 ?_
        walk_at "w_go"
        refine r_rEqOwn iw1.at_ (T.ow_Walker.ty iw2.at_) T.nfo_Walker (Or.inl ⟨m1, m2, S1, S2, d1.2.2.1, d2.2.2.1, d1.2.2.2, d2.2.2.2, rfl, sc1', sc2', wm1', wm2', fun e => ?_, fun r H20 hr s20 => ⟨⟨_, rfl⟩, ?_⟩⟩)
        · subst e
          exact mk_inj wm1 wm2 sc1 sc2
        have hrd : r = decide ((keyP d1.2.2.1 d1.2.2.2).shown = (keyP d2.2.2.1 d2.2.2.2).shown) := by
          rw [Bool.eq_iff_iff, decide_eq_true_eq]
          exact hr.trans hkey.symm
        walk_at "w_go"
        refine ite_nd hrd ?_
        have em20 := s20 _ _ em19
        have wm1'' := wm1'.same s20
        have wm2'' := wm2'.same s20
        have sc1'' := sc1'.same s20
        have sc2'' := sc2'.same s20
        clear iw1 iw2 em19 wm1' wm2' sc1' sc2'
        obtain ⟨dx1, gt1, ot1, nt1, gvs1, ovs1, nvs1, iw1⟩ := id wm1''
        obtain ⟨dx2, gt2, ot2, nt2, gvs2, ovs2, nvs2, iw2⟩ := id wm2''
        walk_at "w_go"
        refine r_ixLK em20 am1 ?_
        walk_at "w_go"
        refine r_ixLK em20 am2 ?_
        walk_at "w_go"
        refine r_neOwn iw1.at_ (T.ow_Walker.ty iw2.at_) T.nfo_Walker (Or.inl ⟨m1, m2, S1, S2, d1.2.2.1, d2.2.2.1, d1.2.2.2, d2.2.2.2, rfl, sc1'', sc2'', wm1'', wm2'', fun e => ?_, fun r2 H21 hr2 s21 => ⟨_, rfl, ?_⟩⟩)
        · subst e
          exact mk_inj wm1 wm2 sc1 sc2
        have hz : decide ((!r2) = decide ((keyP d1.2.2.1 d1.2.2.2).shown = (keyP d2.2.2.1 d2.2.2.2).shown)) = false := by
          rw [show r2 = decide ((keyP d1.2.2.1 d1.2.2.2).shown = (keyP d2.2.2.1 d2.2.2.2).shown) from by
            rw [Bool.eq_iff_iff, decide_eq_true_eq]
            exact hr2.trans hkey.symm]
          cases decide ((keyP d1.2.2.1 d1.2.2.2).shown = (keyP d2.2.2.1 d2.2.2.2).shown) <;> rfl
        walk_at "w_go"
        refine ite_ff hz ?_
        walk_at "w_go"
        exact ⟨_, _, rfl, ((s1519.trans s20).trans s21)⟩
      · rintro σ H17 ⟨v9, v10, rfl, s17⟩
        clear s16 ep16
        have em17 := s17 _ _ e15
        have wm17 := wm1.same s17
        have sc17 := sc1.same s17
        obtain ⟨dx1, gt1, ot1, nt1, gvs1, ovs1, nvs1, iw1⟩ := id wm17
        walk_at "w_go"
        refine r_ixLK em17 am1 ?_
        walk_at "w_go"
        refine r_strOwn iw1.at_ ⟨m1, S1, d1.2.2.1, d1.2.2.2, rfl, wm17, sc17, D1.ok, D1.wo, fun H18 s18 => ?_⟩
        refine r_strBk ?_
        have wm18 := wm17.same s18
        have sc18 := sc17.same s18
        have em18 := s18 _ _ em17
        clear iw1
        obtain ⟨dx1, gt1, ot1, nt1, gvs1, ovs1, nvs1, iw1⟩ := id wm18
        walk_at "w_go"
        rename_i qe H19 n19 s19 e19
        have iw1' := iw1.sameW s19
        have e1' := iw1'.at_
        have clW := T.ow_Walker.cl
        have f6 := T.no_Walker_schema
        have sc19 := sc18.same s19
        refine r_ixLK (s19 _ _ em18) am1 ?_
        walk_at "w_go"
        rename_i qt H20 n20 s20 e20
        have wm20 := (wm18.same s19).same s20
        have sc20 := sc19.same s20
        have s1520 := ((s17.trans s18).trans s19).trans s20
        have em20 := s1520 _ _ e15
        have eqe := s20 _ _ e19
        have any : ∀ x H', AnyV H' x → ∃ tb, TyX K H' x tb ∧ PySem.W.notFirst K ad.Walker tb = true ∧ PySem.W.kitOne K tb (.ref ad.Walker) = some false := fun x H' h => by
          obtain ⟨t, h1, h2, _⟩ := h.ty (K := K)
          exact ⟨_, h1, T.nf_Walker _ h2, T.ow_Walker.base _ h2⟩
        have hall : ∀ x, x ∈ [V.non, V.str (textW d1.2.2.2), V.int 0, V.ref qe, V.ref S1] → ∀ H', Same H20 H' → ∃ tb, TyX K H' x tb ∧ PySem.W.notFirst K ad.Walker tb = true ∧ PySem.W.kitOne K tb (.ref ad.Walker) = some false := fun x hx H' s => by
          simp only [List.mem_cons, List.not_mem_nil, or_false] at hx
          rcases hx with rfl | rfl | rfl | rfl | rfl
          · exact any _ _ trivial
          · exact any _ _ trivial
          · exact any _ _ trivial
          · exact any _ _ (.inr (.inl ⟨_, s _ _ eqe⟩))
          · obtain ⟨sdx, rv, nv, dv, srvs, skvs, hin⟩ := id (sc20.same s)
            exact ⟨_, T.ow_Schema.ty hin.at_, T.nfs_Walker, T.ks_Walker⟩
        clear n20 n19
        refine r_ilK (.of e20) (for_list (K := K) (a := qt) (xs := [V.non, V.str (textW d1.2.2.2), V.int 0, V.ref qe, V.ref S1]) (fun _ σ H' => ∃ (v9 v10 v11 : Option V), σ = [some (.ref a), some (.ref p), some (.int (0 + (i : Int))), some (.ref L), some (.ref W), some (.ref qp), some (.ref qm), none, some (.int (0 + (k1 : Int))), v9, v10, v11] ∧ Same H20 H') ⟨_, _, _, rfl, Same.refl _⟩ ?_ ?_ ?_)
        · rintro j σ H' _ ⟨x6, x7, x8, rfl, s⟩
          exact .of (s _ _ e20)
        · rintro j x σ H21 hj ⟨x6, x7, x8, rfl, s21⟩
          obtain ⟨tb, ty, nf, kit⟩ := hall x (List.mem_of_getElem? hj) H21 s21
          have em21 := s21 _ _ em20
          have wm21 := wm20.same s21
          obtain ⟨dx1, gt1, ot1, nt1, gvs1, ovs1, nvs1, iw21⟩ := id wm21
          walk_at "w_go"
          refine r_ixLK em21 am1 ?_
          walk_at "w_go"
          refine r_rEqOwn iw21.at_ ty nf (Or.inr ⟨m1, S1, d1.2.2.2, x, tb, rfl, wm21, ty, kit, fun H22 s22 => ⟨⟨_, rfl⟩, ?_⟩⟩)
          walk_at "w_go"
          exact ⟨_, _, _, rfl, s21.trans s22⟩
        · rintro σ H' ⟨x6, x7, x8, rfl, s⟩
          walk_at "w_go"
          exact ⟨_, _, _, _, rfl, s1520.trans s⟩
    · rintro σ H16 ⟨v8, v9, v10, v11, rfl, s16⟩
      walk_at "w_go"
      exact ⟨_, _, _, _, _, _, _, _, _, rfl, hp15.same s16⟩
  · rintro σ H2 ⟨v2, v3, v4, v5, v6, v8, v9, v10, v11, rfl, hp2⟩
    walk_at "w_go"
    exact k _
end
end Wm
namespace Wm
open PySem L2

theorem fm_BadSchema : PySem.Er.IForm ["at"] (defArgs s_BadSchema_init) (defBody s_BadSchema_init) (defScope s_BadSchema_init) :=
  PySem.Er.IForm.one _ _ _ _ _ _ _ _ _ _ _ _ _ (fun _ _ _ _ _ => ⟨_, rfl⟩) (fun _ _ _ _ _ => rfl) ⟨fun _ _ _ _ _ _ _ _ _ vs hl => match vs, hl with | [_], _ => rfl, ⟨_, rfl, rfl⟩, rfl, rfl, rfl, (by
      intro f hf
      simp only [List.mem_cons, List.not_mem_nil, or_false] at hf
      rcases hf with rfl <;> exact ⟨rfl, by decide⟩), fun x vs hl => match vs, hl with | [_], _ => rfl, (fun x vs i f v hl h1 h2 => match vs, hl, i, h1, h2 with | [_], _, 0, h1, h2 => by cases h1; cases h2; rfl), by decide⟩
theorem fm_NoKind : PySem.Er.IForm ["kind"] (defArgs s_NoKind_init) (defBody s_NoKind_init) (defScope s_NoKind_init) :=
  PySem.Er.IForm.one _ _ _ _ _ _ _ _ _ _ _ _ _ (fun _ _ _ _ _ => ⟨_, rfl⟩) (fun _ _ _ _ _ => rfl) ⟨fun _ _ _ _ _ _ _ _ _ vs hl => match vs, hl with | [_], _ => rfl, ⟨_, rfl, rfl⟩, rfl, rfl, rfl, (by
      intro f hf
      simp only [List.mem_cons, List.not_mem_nil, or_false] at hf
      rcases hf with rfl <;> exact ⟨rfl, by decide⟩), fun x vs hl => match vs, hl with | [_], _ => rfl, (fun x vs i f v hl h1 h2 => match vs, hl, i, h1, h2 with | [_], _, 0, h1, h2 => by cases h1; cases h2; rfl), by decide⟩
theorem fm_BadGuard : PySem.Er.IForm ["part"] (defArgs s_BadGuard_init) (defBody s_BadGuard_init) (defScope s_BadGuard_init) :=
  PySem.Er.IForm.one _ _ _ _ _ _ _ _ _ _ _ _ _ (fun _ _ _ _ _ => ⟨_, rfl⟩) (fun _ _ _ _ _ => rfl) ⟨fun _ _ _ _ _ _ _ _ _ vs hl => match vs, hl with | [_], _ => rfl, ⟨_, rfl, rfl⟩, rfl, rfl, rfl, (by
      intro f hf
      simp only [List.mem_cons, List.not_mem_nil, or_false] at hf
      rcases hf with rfl <;> exact ⟨rfl, by decide⟩), fun x vs hl => match vs, hl with | [_], _ => rfl, (fun x vs i f v hl h1 h2 => match vs, hl, i, h1, h2 with | [_], _, 0, h1, h2 => by cases h1; cases h2; rfl), by decide⟩
theorem fm_BadWalker : PySem.Er.IForm ["part"] (defArgs s_BadWalker_init) (defBody s_BadWalker_init) (defScope s_BadWalker_init) :=
  PySem.Er.IForm.one _ _ _ _ _ _ _ _ _ _ _ _ _ (fun _ _ _ _ _ => ⟨_, rfl⟩) (fun _ _ _ _ _ => rfl) ⟨fun _ _ _ _ _ _ _ _ _ vs hl => match vs, hl with | [_], _ => rfl, ⟨_, rfl, rfl⟩, rfl, rfl, rfl, (by
      intro f hf
      simp only [List.mem_cons, List.not_mem_nil, or_false] at hf
      rcases hf with rfl <;> exact ⟨rfl, by decide⟩), fun x vs hl => match vs, hl with | [_], _ => rfl, (fun x vs i f v hl h1 h2 => match vs, hl, i, h1, h2 with | [_], _, 0, h1, h2 => by cases h1; cases h2; rfl), by decide⟩
theorem all_mk {l : PySem.W.OpenLaw} {w : World} {K : PySem.W.Frag} {h : Heap} {mg : Str → Option Value} {fa : Addr} (X : K.In h) (G : h.Ns mainGlobals mg) (hfa : mg "law" = some (.ref fa))
    {A_MODES : Addr} {td_MODES : Option Addr} {ti_MODES : Array Value} {tn_MODES : Nat} {ts_MODES : Array (Option Value)} {A_RESERVED : Addr} {td_RESERVED : Option Addr} {ti_RESERVED : Array Value} {tn_RESERVED : Nat} {ts_RESERVED : Array (Option Value)} {u_CAPITALS : Value} {u_LETTERS : Value} {u_MOST_BASES : Value} {C_BadSchema f_BadSchema_init cda_BadSchema_init cc_BadSchema_init : Addr} {oc_BadSchema_init ct_BadSchema_init ccl_BadSchema_init ccc_BadSchema_init dc_BadSchema_init pm_BadSchema_init : Value} {od_BadSchema_init an_BadSchema_init cdd_BadSchema_init cld_BadSchema_init : Option Addr} {osl_BadSchema_init ccs_BadSchema_init csl_BadSchema_init : Array (Option Value)} {vs_BadSchema_init : Array Value} {file_BadSchema_init : Str} {tf_BadSchema_init : Tok} {C_NoKind f_NoKind_init cda_NoKind_init cc_NoKind_init : Addr} {oc_NoKind_init ct_NoKind_init ccl_NoKind_init ccc_NoKind_init dc_NoKind_init pm_NoKind_init : Value} {od_NoKind_init an_NoKind_init cdd_NoKind_init cld_NoKind_init : Option Addr} {osl_NoKind_init ccs_NoKind_init csl_NoKind_init : Array (Option Value)} {vs_NoKind_init : Array Value} {file_NoKind_init : Str} {tf_NoKind_init : Tok} {C_BadGuard f_BadGuard_init cda_BadGuard_init cc_BadGuard_init : Addr} {oc_BadGuard_init ct_BadGuard_init ccl_BadGuard_init ccc_BadGuard_init dc_BadGuard_init pm_BadGuard_init : Value} {od_BadGuard_init an_BadGuard_init cdd_BadGuard_init cld_BadGuard_init : Option Addr} {osl_BadGuard_init ccs_BadGuard_init csl_BadGuard_init : Array (Option Value)} {vs_BadGuard_init : Array Value} {file_BadGuard_init : Str} {tf_BadGuard_init : Tok} {C_BadWalker f_BadWalker_init cda_BadWalker_init cc_BadWalker_init : Addr} {oc_BadWalker_init ct_BadWalker_init ccl_BadWalker_init ccc_BadWalker_init dc_BadWalker_init pm_BadWalker_init : Value} {od_BadWalker_init an_BadWalker_init cdd_BadWalker_init cld_BadWalker_init : Option Addr} {osl_BadWalker_init ccs_BadWalker_init csl_BadWalker_init : Array (Option Value)} {vs_BadWalker_init : Array Value} {file_BadWalker_init : Str} {tf_BadWalker_init : Tok} {C_Kind : Addr} {C_Schema : Addr} {cu_Schema_MOST : Value} {cu_Schema_FIELDS : Value} {A_MARKS : Addr} {td_MARKS : Option Addr} {ti_MARKS : Array Value} {tn_MARKS : Nat} {ts_MARKS : Array (Option Value)} {A_ACTS : Addr} {td_ACTS : Option Addr} {ti_ACTS : Array Value} {tn_ACTS : Nat} {ts_ACTS : Array (Option Value)} {A_BY : Addr} {td_BY : Option Addr} {ti_BY : Array Value} {tn_BY : Nat} {ts_BY : Array (Option Value)} {A_KEEPS : Addr} {td_KEEPS : Option Addr} {ti_KEEPS : Array Value} {tn_KEEPS : Nat} {ts_KEEPS : Array (Option Value)} {C_Guard : Addr} {od_Guard_init an_Guard_init : Option Addr} {sl_Guard_init : Array (Option Value)} {oc_Guard_init  dc_Guard_init pm_Guard_init cd_Guard_init ct_Guard_init : Value} {f_Guard_init : Addr} {dT_Guard_init : Addr} {dc_TGuard_init : Value} {dd_TGuard_init : Option Addr} {di_TGuard_init : Array Value} {dn_TGuard_init : Nat} {ds_TGuard_init : Array (Option Value)} {kD_Guard_init : Addr} {ku0_Guard_init ku1_Guard_init ku2_Guard_init ku3_Guard_init : Value} {u_MOST_LIMIT : Value} {dW_guards : Addr} {dW_out : Addr} {dW_anew : Addr} {C_Walker : Addr} {od_Walker_init an_Walker_init : Option Addr} {sl_Walker_init : Array (Option Value)} {oc_Walker_init  dc_Walker_init pm_Walker_init cd_Walker_init ct_Walker_init : Value} {f_Walker_init : Addr} {kD_Walker_init : Addr} {ku0_Walker_init ku1_Walker_init ku2_Walker_init ku3_Walker_init ku4_Walker_init : Value} {od_is_letters an_is_letters : Option Addr} {sl_is_letters : Array (Option Value)} {oc_is_letters kV_is_letters dc_is_letters pm_is_letters cd_is_letters ct_is_letters : Value} {f_is_letters : Addr} {od_is_kind_name an_is_kind_name : Option Addr} {sl_is_kind_name : Array (Option Value)} {oc_is_kind_name kV_is_kind_name dc_is_kind_name pm_is_kind_name cd_is_kind_name ct_is_kind_name : Value} {f_is_kind_name : Addr} {od_is_field_name an_is_field_name : Option Addr} {sl_is_field_name : Array (Option Value)} {oc_is_field_name kV_is_field_name dc_is_field_name pm_is_field_name cd_is_field_name ct_is_field_name : Value} {f_is_field_name : Addr} {od_is_mode an_is_mode : Option Addr} {sl_is_mode : Array (Option Value)} {oc_is_mode kV_is_mode dc_is_mode pm_is_mode cd_is_mode ct_is_mode : Value} {f_is_mode : Addr} {od_is_field an_is_field : Option Addr} {sl_is_field : Array (Option Value)} {oc_is_field kV_is_field dc_is_field pm_is_field cd_is_field ct_is_field : Value} {f_is_field : Addr} {od_is_bases an_is_bases : Option Addr} {sl_is_bases : Array (Option Value)} {oc_is_bases kV_is_bases dc_is_bases pm_is_bases cd_is_bases ct_is_bases : Value} {f_is_bases : Addr} {od_Kind_init an_Kind_init : Option Addr} {sl_Kind_init : Array (Option Value)} {oc_Kind_init kV_Kind_init dc_Kind_init pm_Kind_init cd_Kind_init ct_Kind_init : Value} {f_Kind_init : Addr} {od_make_kind an_make_kind : Option Addr} {sl_make_kind : Array (Option Value)} {oc_make_kind kV_make_kind dc_make_kind pm_make_kind cd_make_kind ct_make_kind : Value} {f_make_kind : Addr} {od_Schema_init an_Schema_init : Option Addr} {sl_Schema_init : Array (Option Value)} {oc_Schema_init kV_Schema_init dc_Schema_init pm_Schema_init cd_Schema_init ct_Schema_init : Value} {f_Schema_init : Addr} {od_Schema_getitem an_Schema_getitem : Option Addr} {sl_Schema_getitem : Array (Option Value)} {oc_Schema_getitem kV_Schema_getitem dc_Schema_getitem pm_Schema_getitem cd_Schema_getitem ct_Schema_getitem : Value} {f_Schema_getitem : Addr} {od_Schema_under an_Schema_under : Option Addr} {sl_Schema_under : Array (Option Value)} {oc_Schema_under kV_Schema_under dc_Schema_under pm_Schema_under cd_Schema_under ct_Schema_under : Value} {f_Schema_under : Addr} {od_is_choice an_is_choice : Option Addr} {sl_is_choice : Array (Option Value)} {oc_is_choice kV_is_choice dc_is_choice pm_is_choice cd_is_choice ct_is_choice : Value} {f_is_choice : Addr} {od_Schema_contains an_Schema_contains : Option Addr} {sl_Schema_contains : Array (Option Value)} {oc_Schema_contains kV_Schema_contains dc_Schema_contains pm_Schema_contains cd_Schema_contains ct_Schema_contains : Value} {f_Schema_contains : Addr} {od_is_start an_is_start : Option Addr} {sl_is_start : Array (Option Value)} {oc_is_start kV_is_start dc_is_start pm_is_start cd_is_start ct_is_start : Value} {f_is_start : Addr} {od_is_pairs an_is_pairs : Option Addr} {sl_is_pairs : Array (Option Value)} {oc_is_pairs kV_is_pairs dc_is_pairs pm_is_pairs cd_is_pairs ct_is_pairs : Value} {f_is_pairs : Addr} {od_is_guards an_is_guards : Option Addr} {sl_is_guards : Array (Option Value)} {oc_is_guards kV_is_guards dc_is_guards pm_is_guards cd_is_guards ct_is_guards : Value} {f_is_guards : Addr} {od_is_owned an_is_owned : Option Addr} {sl_is_owned : Array (Option Value)} {oc_is_owned kV_is_owned dc_is_owned pm_is_owned cd_is_owned ct_is_owned : Value} {f_is_owned : Addr} {od_is_fields an_is_fields : Option Addr} {sl_is_fields : Array (Option Value)} {oc_is_fields kV_is_fields dc_is_fields pm_is_fields cd_is_fields ct_is_fields : Value} {f_is_fields : Addr} {od_is_limit an_is_limit : Option Addr} {sl_is_limit : Array (Option Value)} {oc_is_limit kV_is_limit dc_is_limit pm_is_limit cd_is_limit ct_is_limit : Value} {f_is_limit : Addr} {od_wrong_part an_wrong_part : Option Addr} {sl_wrong_part : Array (Option Value)} {oc_wrong_part kV_wrong_part dc_wrong_part pm_wrong_part cd_wrong_part ct_wrong_part : Value} {f_wrong_part : Addr} {od_guards_in_order an_guards_in_order : Option Addr} {sl_guards_in_order : Array (Option Value)} {oc_guards_in_order kV_guards_in_order dc_guards_in_order pm_guards_in_order cd_guards_in_order ct_guards_in_order : Value} {f_guards_in_order : Addr} {od_fields_in_order an_fields_in_order : Option Addr} {sl_fields_in_order : Array (Option Value)} {oc_fields_in_order kV_fields_in_order dc_fields_in_order pm_fields_in_order cd_fields_in_order ct_fields_in_order : Value} {f_fields_in_order : Addr} {od_Schema_eq an_Schema_eq : Option Addr} {sl_Schema_eq : Array (Option Value)} {oc_Schema_eq kV_Schema_eq dc_Schema_eq pm_Schema_eq cd_Schema_eq ct_Schema_eq : Value} {f_Schema_eq : Addr} {od_Guard_eq an_Guard_eq : Option Addr} {sl_Guard_eq : Array (Option Value)} {oc_Guard_eq kV_Guard_eq dc_Guard_eq pm_Guard_eq cd_Guard_eq ct_Guard_eq : Value} {f_Guard_eq : Addr} {od_Guard_str an_Guard_str : Option Addr} {sl_Guard_str : Array (Option Value)} {oc_Guard_str kV_Guard_str dc_Guard_str pm_Guard_str cd_Guard_str ct_Guard_str : Value} {f_Guard_str : Addr} {od_Walker_parts an_Walker_parts : Option Addr} {sl_Walker_parts : Array (Option Value)} {oc_Walker_parts kV_Walker_parts dc_Walker_parts pm_Walker_parts cd_Walker_parts ct_Walker_parts : Value} {f_Walker_parts : Addr} {od_Walker_eq an_Walker_eq : Option Addr} {sl_Walker_eq : Array (Option Value)} {oc_Walker_eq kV_Walker_eq dc_Walker_eq pm_Walker_eq cd_Walker_eq ct_Walker_eq : Value} {f_Walker_eq : Addr} {od_walker_text an_walker_text : Option Addr} {sl_walker_text : Array (Option Value)} {oc_walker_text kV_walker_text dc_walker_text pm_walker_text cd_walker_text ct_walker_text : Value} {f_walker_text : Addr} {od_Walker_str an_Walker_str : Option Addr} {sl_Walker_str : Array (Option Value)} {oc_Walker_str kV_Walker_str dc_Walker_str pm_Walker_str cd_Walker_str ct_Walker_str : Value} {f_Walker_str : Addr} {od_l_pen an_l_pen : Option Addr} {sl_l_pen : Array (Option Value)} {oc_l_pen kV_l_pen dc_l_pen pm_l_pen cd_l_pen ct_l_pen : Value} {f_l_pen : Addr} {od_l_take an_l_take : Option Addr} {sl_l_take : Array (Option Value)} {oc_l_take kV_l_take dc_l_take pm_l_take cd_l_take ct_l_take : Value} {f_l_take : Addr} {od_l_bit an_l_bit : Option Addr} {sl_l_bit : Array (Option Value)} {oc_l_bit kV_l_bit dc_l_bit pm_l_bit cd_l_bit ct_l_bit : Value} {f_l_bit : Addr} {od_l_letters an_l_letters : Option Addr} {sl_l_letters : Array (Option Value)} {oc_l_letters kV_l_letters dc_l_letters pm_l_letters cd_l_letters ct_l_letters : Value} {f_l_letters : Addr} {od_l_names an_l_names : Option Addr} {sl_l_names : Array (Option Value)} {oc_l_names kV_l_names dc_l_names pm_l_names cd_l_names ct_l_names : Value} {f_l_names : Addr} {od_l_kind_names an_l_kind_names : Option Addr} {sl_l_kind_names : Array (Option Value)} {oc_l_kind_names kV_l_kind_names dc_l_kind_names pm_l_kind_names cd_l_kind_names ct_l_kind_names : Value} {f_l_kind_names : Addr} {od_l_field_names an_l_field_names : Option Addr} {sl_l_field_names : Array (Option Value)} {oc_l_field_names kV_l_field_names dc_l_field_names pm_l_field_names cd_l_field_names ct_l_field_names : Value} {f_l_field_names : Addr} {od_l_line an_l_line : Option Addr} {sl_l_line : Array (Option Value)} {oc_l_line kV_l_line dc_l_line pm_l_line cd_l_line ct_l_line : Value} {f_l_line : Addr} {od_l_fields an_l_fields : Option Addr} {sl_l_fields : Array (Option Value)} {oc_l_fields kV_l_fields dc_l_fields pm_l_fields cd_l_fields ct_l_fields : Value} {f_l_fields : Addr} {od_l_concrete an_l_concrete : Option Addr} {sl_l_concrete : Array (Option Value)} {oc_l_concrete kV_l_concrete dc_l_concrete pm_l_concrete cd_l_concrete ct_l_concrete : Value} {f_l_concrete : Addr} {od_l_under an_l_under : Option Addr} {sl_l_under : Array (Option Value)} {oc_l_under kV_l_under dc_l_under pm_l_under cd_l_under ct_l_under : Value} {f_l_under : Addr} {od_l_merged an_l_merged : Option Addr} {sl_l_merged : Array (Option Value)} {oc_l_merged kV_l_merged dc_l_merged pm_l_merged cd_l_merged ct_l_merged : Value} {f_l_merged : Addr} {od_l_own_fields an_l_own_fields : Option Addr} {sl_l_own_fields : Array (Option Value)} {oc_l_own_fields kV_l_own_fields dc_l_own_fields pm_l_own_fields cd_l_own_fields ct_l_own_fields : Value} {f_l_own_fields : Addr} {od_l_rows an_l_rows : Option Addr} {sl_l_rows : Array (Option Value)} {oc_l_rows kV_l_rows dc_l_rows pm_l_rows cd_l_rows ct_l_rows : Value} {f_l_rows : Addr} {od_l_pick an_l_pick : Option Addr} {sl_l_pick : Array (Option Value)} {oc_l_pick kV_l_pick dc_l_pick pm_l_pick cd_l_pick ct_l_pick : Value} {f_l_pick : Addr} {od_l_guard_drawn an_l_guard_drawn : Option Addr} {sl_l_guard_drawn : Array (Option Value)} {oc_l_guard_drawn kV_l_guard_drawn dc_l_guard_drawn pm_l_guard_drawn cd_l_guard_drawn ct_l_guard_drawn : Value} {f_l_guard_drawn : Addr} {od_l_guard_made an_l_guard_made : Option Addr} {sl_l_guard_made : Array (Option Value)} {oc_l_guard_made kV_l_guard_made dc_l_guard_made pm_l_guard_made cd_l_guard_made ct_l_guard_made : Value} {f_l_guard_made : Addr} {od_l_walker an_l_walker : Option Addr} {sl_l_walker : Array (Option Value)} {oc_l_walker kV_l_walker dc_l_walker pm_l_walker cd_l_walker ct_l_walker : Value} {f_l_walker : Addr} {od_l_walker_made an_l_walker_made : Option Addr} {sl_l_walker_made : Array (Option Value)} {oc_l_walker_made kV_l_walker_made dc_l_walker_made pm_l_walker_made cd_l_walker_made ct_l_walker_made : Value} {f_l_walker_made : Addr} {od_l_key an_l_key : Option Addr} {sl_l_key : Array (Option Value)} {oc_l_key kV_l_key dc_l_key pm_l_key cd_l_key ct_l_key : Value} {f_l_key : Addr} {od_l_one_part an_l_one_part : Option Addr} {sl_l_one_part : Array (Option Value)} {oc_l_one_part kV_l_one_part dc_l_one_part pm_l_one_part cd_l_one_part ct_l_one_part : Value} {f_l_one_part : Addr} {od_l_turned an_l_turned : Option Addr} {sl_l_turned : Array (Option Value)} {oc_l_turned kV_l_turned dc_l_turned pm_l_turned cd_l_turned ct_l_turned : Value} {f_l_turned : Addr} {od_law an_law : Option Addr} {sl_law : Array (Option Value)} {oc_law kV_law dc_law pm_law cd_law ct_law : Value} {f_law : Addr}
    (z_len : PySem.W.nsIn K mainGlobals "len" = some none)
    (z_int : PySem.W.nsIn K mainGlobals "int" = some none)
    (z_list : PySem.W.nsIn K mainGlobals "list" = some none)
    (z_range : PySem.W.nsIn K mainGlobals "range" = some none)
    (z_isinstance : PySem.W.nsIn K mainGlobals "isinstance" = some none)
    (z_str : PySem.W.nsIn K mainGlobals "str" = some none)
    (z_tuple : PySem.W.nsIn K mainGlobals "tuple" = some none)
    (z_set : PySem.W.nsIn K mainGlobals "set" = some none)
    (z_enumerate : PySem.W.nsIn K mainGlobals "enumerate" = some none)
    (z_reversed : PySem.W.nsIn K mainGlobals "reversed" = some none)
    (z_all : PySem.W.nsIn K mainGlobals "all" = some none)
    (z_repr : PySem.W.nsIn K mainGlobals "repr" = some none)
    (z_bool : PySem.W.nsIn K mainGlobals "bool" = some none)
    (aG_MODES : PySem.W.nsIn K mainGlobals "MODES" = some (some (.ref A_MODES)))
    (lt_MODES : K.lookup A_MODES = some ⟨.type "tuple", td_MODES, .seq ti_MODES tn_MODES, ts_MODES⟩)
    (ls_MODES : decide (ti_MODES.size ≤ 16777216) = true)
    (lv_MODES : Vals (MODESl.map V.str) ti_MODES.toList)
    (aG_RESERVED : PySem.W.nsIn K mainGlobals "RESERVED" = some (some (.ref A_RESERVED)))
    (lt_RESERVED : K.lookup A_RESERVED = some ⟨.type "tuple", td_RESERVED, .seq ti_RESERVED tn_RESERVED, ts_RESERVED⟩)
    (ls_RESERVED : decide (ti_RESERVED.size ≤ 16777216) = true)
    (lv_RESERVED : Vals (RESl.map V.str) ti_RESERVED.toList)
    (aG_CAPITALS : PySem.W.nsIn K mainGlobals "CAPITALS" = some (some u_CAPITALS))
    (rG_CAPITALS : RelV (.str CAPS) u_CAPITALS)
    (aG_LETTERS : PySem.W.nsIn K mainGlobals "LETTERS" = some (some u_LETTERS))
    (rG_LETTERS : RelV (.str LOWS) u_LETTERS)
    (aG_MOST_BASES : PySem.W.nsIn K mainGlobals "MOST_BASES" = some (some u_MOST_BASES))
    (rG_MOST_BASES : RelV (.int 3) u_MOST_BASES)
    (aC_BadSchema : PySem.W.nsIn K mainGlobals "BadSchema" = some (some (.ref C_BadSchema)))
    (init_BadSchema : PySem.W.findIn K (.ref C_BadSchema) "__init__" = some (some (.ref f_BadSchema_init)))
    (ty_BadSchema : PySem.W.typeIn K (.ref f_BadSchema_init) = some (.type "function"))
    (lk_BadSchema : K.lookup f_BadSchema_init = some ⟨oc_BadSchema_init, od_BadSchema_init, .func (PySem.W.ksFn "__init__" "BadSchema.__init__" (defArgs s_BadSchema_init) (defBody s_BadSchema_init) (defScope s_BadSchema_init) .none .none dc_BadSchema_init pm_BadSchema_init an_BadSchema_init (.ref cda_BadSchema_init) ct_BadSchema_init cc_BadSchema_init), osl_BadSchema_init⟩)
    (hc_BadSchema : PySem.W.codeIn K (.ref cda_BadSchema_init) "BadSchema.__init__" = true)
    (code_BadSchema : K.lookup cda_BadSchema_init = some ⟨ccl_BadSchema_init, cdd_BadSchema_init, .fields vs_BadSchema_init, ccs_BadSchema_init⟩)
    (hv_BadSchema : vs_BadSchema_init[2]? = some (.str file_BadSchema_init tf_BadSchema_init))
    (hf_BadSchema : ((l.prog.main.file : Str) == file_BadSchema_init) = true)
    (cell_BadSchema : K.lookup cc_BadSchema_init = some ⟨ccc_BadSchema_init, cld_BadSchema_init, .cell (some (.ref C_BadSchema)), csl_BadSchema_init⟩)
    (ic_BadSchema : PySem.W.isClsIn K C_BadSchema = true)
    (sub_BadSchema : PySem.W.mroIn K C_BadSchema (.ref C_BadSchema) = some true)
    (z_super : PySem.W.nsIn K mainGlobals "super" = some none)
    (z_tp : PySem.W.nsIn K cStatics "thirdparty.any" = some none)
    (z_top : (l.prog.main.scope.names.lookup ("super" : Str)).isSome = false)
    (sup_BadSchema : PySem.W.ks_superIn K C_BadSchema C_BadSchema "__init__" = some (some (.builtin "ValueError.__init__")))
    (base_BadSchema : PySem.W.subIn K (.ref C_BadSchema) (.type "ValueError") = some true)
    (exc_BadSchema : PySem.W.excInitIn K C_BadSchema [.type "ValueError", .type "Exception", .type "BaseException", .type "object"] "ValueError.__new__" = true)
    (sa_BadSchema : PySem.W.findIn K (.ref C_BadSchema) "__setattr__" = some (some (.builtin "object.__setattr__")))
    (ov_BadSchema : PySem.W.excOver K C_BadSchema [.type "ValueError", .type "Exception", .type "BaseException", .type "object"] = true)
    (hd_BadSchema : PySem.W.hasDictIn K C_BadSchema = true)
    (no_BadSchema_at : PySem.W.findIn K (.ref C_BadSchema) "at" = some none)
    (exC_BadSchema : PySem.W.subIn K (.ref C_BadSchema) (.type "BaseException") = some true)
    (tyC_BadSchema : PySem.W.typeIn K (.ref C_BadSchema) = some (.type "type"))
    (kC_BadSchema : PySem.W.keepIn K (.ref C_BadSchema) = true)
    (su_BadSchema : PySem.W.subIn K (.ref C_BadSchema) (.ref C_BadSchema) = some true)
    (ga_BadSchema : PySem.W.findIn K (.ref C_BadSchema) "__getattribute__" = some (some (.builtin "BaseException.__getattribute__")))
    (gg_BadSchema : PySem.W.findIn K (.ref C_BadSchema) "__getattr__" = some none)
    (aC_NoKind : PySem.W.nsIn K mainGlobals "NoKind" = some (some (.ref C_NoKind)))
    (init_NoKind : PySem.W.findIn K (.ref C_NoKind) "__init__" = some (some (.ref f_NoKind_init)))
    (ty_NoKind : PySem.W.typeIn K (.ref f_NoKind_init) = some (.type "function"))
    (lk_NoKind : K.lookup f_NoKind_init = some ⟨oc_NoKind_init, od_NoKind_init, .func (PySem.W.ksFn "__init__" "NoKind.__init__" (defArgs s_NoKind_init) (defBody s_NoKind_init) (defScope s_NoKind_init) .none .none dc_NoKind_init pm_NoKind_init an_NoKind_init (.ref cda_NoKind_init) ct_NoKind_init cc_NoKind_init), osl_NoKind_init⟩)
    (hc_NoKind : PySem.W.codeIn K (.ref cda_NoKind_init) "NoKind.__init__" = true)
    (code_NoKind : K.lookup cda_NoKind_init = some ⟨ccl_NoKind_init, cdd_NoKind_init, .fields vs_NoKind_init, ccs_NoKind_init⟩)
    (hv_NoKind : vs_NoKind_init[2]? = some (.str file_NoKind_init tf_NoKind_init))
    (hf_NoKind : ((l.prog.main.file : Str) == file_NoKind_init) = true)
    (cell_NoKind : K.lookup cc_NoKind_init = some ⟨ccc_NoKind_init, cld_NoKind_init, .cell (some (.ref C_NoKind)), csl_NoKind_init⟩)
    (ic_NoKind : PySem.W.isClsIn K C_NoKind = true)
    (sub_NoKind : PySem.W.mroIn K C_NoKind (.ref C_NoKind) = some true)
    (sup_NoKind : PySem.W.ks_superIn K C_NoKind C_NoKind "__init__" = some (some (.builtin "ValueError.__init__")))
    (base_NoKind : PySem.W.subIn K (.ref C_NoKind) (.type "ValueError") = some true)
    (exc_NoKind : PySem.W.excInitIn K C_NoKind [.type "ValueError", .type "Exception", .type "BaseException", .type "object"] "ValueError.__new__" = true)
    (sa_NoKind : PySem.W.findIn K (.ref C_NoKind) "__setattr__" = some (some (.builtin "object.__setattr__")))
    (ov_NoKind : PySem.W.excOver K C_NoKind [.type "ValueError", .type "Exception", .type "BaseException", .type "object"] = true)
    (hd_NoKind : PySem.W.hasDictIn K C_NoKind = true)
    (no_NoKind_kind : PySem.W.findIn K (.ref C_NoKind) "kind" = some none)
    (exC_NoKind : PySem.W.subIn K (.ref C_NoKind) (.type "BaseException") = some true)
    (tyC_NoKind : PySem.W.typeIn K (.ref C_NoKind) = some (.type "type"))
    (kC_NoKind : PySem.W.keepIn K (.ref C_NoKind) = true)
    (su_NoKind : PySem.W.subIn K (.ref C_NoKind) (.ref C_NoKind) = some true)
    (ga_NoKind : PySem.W.findIn K (.ref C_NoKind) "__getattribute__" = some (some (.builtin "BaseException.__getattribute__")))
    (gg_NoKind : PySem.W.findIn K (.ref C_NoKind) "__getattr__" = some none)
    (aC_BadGuard : PySem.W.nsIn K mainGlobals "BadGuard" = some (some (.ref C_BadGuard)))
    (init_BadGuard : PySem.W.findIn K (.ref C_BadGuard) "__init__" = some (some (.ref f_BadGuard_init)))
    (ty_BadGuard : PySem.W.typeIn K (.ref f_BadGuard_init) = some (.type "function"))
    (lk_BadGuard : K.lookup f_BadGuard_init = some ⟨oc_BadGuard_init, od_BadGuard_init, .func (PySem.W.ksFn "__init__" "BadGuard.__init__" (defArgs s_BadGuard_init) (defBody s_BadGuard_init) (defScope s_BadGuard_init) .none .none dc_BadGuard_init pm_BadGuard_init an_BadGuard_init (.ref cda_BadGuard_init) ct_BadGuard_init cc_BadGuard_init), osl_BadGuard_init⟩)
    (hc_BadGuard : PySem.W.codeIn K (.ref cda_BadGuard_init) "BadGuard.__init__" = true)
    (code_BadGuard : K.lookup cda_BadGuard_init = some ⟨ccl_BadGuard_init, cdd_BadGuard_init, .fields vs_BadGuard_init, ccs_BadGuard_init⟩)
    (hv_BadGuard : vs_BadGuard_init[2]? = some (.str file_BadGuard_init tf_BadGuard_init))
    (hf_BadGuard : ((l.prog.main.file : Str) == file_BadGuard_init) = true)
    (cell_BadGuard : K.lookup cc_BadGuard_init = some ⟨ccc_BadGuard_init, cld_BadGuard_init, .cell (some (.ref C_BadGuard)), csl_BadGuard_init⟩)
    (ic_BadGuard : PySem.W.isClsIn K C_BadGuard = true)
    (sub_BadGuard : PySem.W.mroIn K C_BadGuard (.ref C_BadGuard) = some true)
    (sup_BadGuard : PySem.W.ks_superIn K C_BadGuard C_BadGuard "__init__" = some (some (.builtin "ValueError.__init__")))
    (base_BadGuard : PySem.W.subIn K (.ref C_BadGuard) (.type "ValueError") = some true)
    (exc_BadGuard : PySem.W.excInitIn K C_BadGuard [.type "ValueError", .type "Exception", .type "BaseException", .type "object"] "ValueError.__new__" = true)
    (sa_BadGuard : PySem.W.findIn K (.ref C_BadGuard) "__setattr__" = some (some (.builtin "object.__setattr__")))
    (ov_BadGuard : PySem.W.excOver K C_BadGuard [.type "ValueError", .type "Exception", .type "BaseException", .type "object"] = true)
    (hd_BadGuard : PySem.W.hasDictIn K C_BadGuard = true)
    (no_BadGuard_part : PySem.W.findIn K (.ref C_BadGuard) "part" = some none)
    (exC_BadGuard : PySem.W.subIn K (.ref C_BadGuard) (.type "BaseException") = some true)
    (tyC_BadGuard : PySem.W.typeIn K (.ref C_BadGuard) = some (.type "type"))
    (kC_BadGuard : PySem.W.keepIn K (.ref C_BadGuard) = true)
    (su_BadGuard : PySem.W.subIn K (.ref C_BadGuard) (.ref C_BadGuard) = some true)
    (ga_BadGuard : PySem.W.findIn K (.ref C_BadGuard) "__getattribute__" = some (some (.builtin "BaseException.__getattribute__")))
    (gg_BadGuard : PySem.W.findIn K (.ref C_BadGuard) "__getattr__" = some none)
    (aC_BadWalker : PySem.W.nsIn K mainGlobals "BadWalker" = some (some (.ref C_BadWalker)))
    (init_BadWalker : PySem.W.findIn K (.ref C_BadWalker) "__init__" = some (some (.ref f_BadWalker_init)))
    (ty_BadWalker : PySem.W.typeIn K (.ref f_BadWalker_init) = some (.type "function"))
    (lk_BadWalker : K.lookup f_BadWalker_init = some ⟨oc_BadWalker_init, od_BadWalker_init, .func (PySem.W.ksFn "__init__" "BadWalker.__init__" (defArgs s_BadWalker_init) (defBody s_BadWalker_init) (defScope s_BadWalker_init) .none .none dc_BadWalker_init pm_BadWalker_init an_BadWalker_init (.ref cda_BadWalker_init) ct_BadWalker_init cc_BadWalker_init), osl_BadWalker_init⟩)
    (hc_BadWalker : PySem.W.codeIn K (.ref cda_BadWalker_init) "BadWalker.__init__" = true)
    (code_BadWalker : K.lookup cda_BadWalker_init = some ⟨ccl_BadWalker_init, cdd_BadWalker_init, .fields vs_BadWalker_init, ccs_BadWalker_init⟩)
    (hv_BadWalker : vs_BadWalker_init[2]? = some (.str file_BadWalker_init tf_BadWalker_init))
    (hf_BadWalker : ((l.prog.main.file : Str) == file_BadWalker_init) = true)
    (cell_BadWalker : K.lookup cc_BadWalker_init = some ⟨ccc_BadWalker_init, cld_BadWalker_init, .cell (some (.ref C_BadWalker)), csl_BadWalker_init⟩)
    (ic_BadWalker : PySem.W.isClsIn K C_BadWalker = true)
    (sub_BadWalker : PySem.W.mroIn K C_BadWalker (.ref C_BadWalker) = some true)
    (sup_BadWalker : PySem.W.ks_superIn K C_BadWalker C_BadWalker "__init__" = some (some (.builtin "ValueError.__init__")))
    (base_BadWalker : PySem.W.subIn K (.ref C_BadWalker) (.type "ValueError") = some true)
    (exc_BadWalker : PySem.W.excInitIn K C_BadWalker [.type "ValueError", .type "Exception", .type "BaseException", .type "object"] "ValueError.__new__" = true)
    (sa_BadWalker : PySem.W.findIn K (.ref C_BadWalker) "__setattr__" = some (some (.builtin "object.__setattr__")))
    (ov_BadWalker : PySem.W.excOver K C_BadWalker [.type "ValueError", .type "Exception", .type "BaseException", .type "object"] = true)
    (hd_BadWalker : PySem.W.hasDictIn K C_BadWalker = true)
    (no_BadWalker_part : PySem.W.findIn K (.ref C_BadWalker) "part" = some none)
    (exC_BadWalker : PySem.W.subIn K (.ref C_BadWalker) (.type "BaseException") = some true)
    (tyC_BadWalker : PySem.W.typeIn K (.ref C_BadWalker) = some (.type "type"))
    (kC_BadWalker : PySem.W.keepIn K (.ref C_BadWalker) = true)
    (su_BadWalker : PySem.W.subIn K (.ref C_BadWalker) (.ref C_BadWalker) = some true)
    (ga_BadWalker : PySem.W.findIn K (.ref C_BadWalker) "__getattribute__" = some (some (.builtin "BaseException.__getattribute__")))
    (gg_BadWalker : PySem.W.findIn K (.ref C_BadWalker) "__getattr__" = some none)
    (aC_Kind : PySem.W.nsIn K mainGlobals "Kind" = some (some (.ref C_Kind)))
    (pg_Kind : PySem.W.plainGet K C_Kind Str.empty = true)
    (hd_Kind : PySem.W.hasDictIn K C_Kind = true)
    (po_Kind : PySem.W.plainOver K C_Kind = true)
    (sa_Kind : PySem.W.findIn K (.ref C_Kind) "__setattr__" = some (some (.builtin "object.__setattr__")))
    (ha_Kind : PySem.W.findIn K (.ref C_Kind) "__class__" = some (some (.builtin "object.__class__")))
    (hn_Kind : PySem.W.specialIn K (.builtin "object.__class__") "__get__" = some (some (.builtin "getset_descriptor.__get__")))
    (ht_Kind : PySem.W.takesIn K (.builtin "object.__class__") = some true)
    (hm_Kind : PySem.W.mroIn K C_Kind (.type "object") = some true)
    (k1_Kind : PySem.W.kitOne K (.ref C_Kind) (.ref C_Kind) = some true)
    (b1_Kind : PySem.W.kitOne K (.type "NoneType") (.ref C_Kind) = some false)
    (b2_Kind : PySem.W.kitOne K (.type "bool") (.ref C_Kind) = some false)
    (b3_Kind : PySem.W.kitOne K (.type "int") (.ref C_Kind) = some false)
    (b4_Kind : PySem.W.kitOne K (.type "str") (.ref C_Kind) = some false)
    (b5_Kind : PySem.W.kitOne K (.type "list") (.ref C_Kind) = some false)
    (b6_Kind : PySem.W.kitOne K (.type "tuple") (.ref C_Kind) = some false)
    (b7_Kind : PySem.W.kitOne K (.type "dict") (.ref C_Kind) = some false)
    (no_Kind_name : PySem.W.findIn K (.ref C_Kind) "name" = some none)
    (no_Kind_bases : PySem.W.findIn K (.ref C_Kind) "bases" = some none)
    (no_Kind_is_abstract : PySem.W.findIn K (.ref C_Kind) "is_abstract" = some none)
    (no_Kind_own : PySem.W.findIn K (.ref C_Kind) "own" = some none)
    (no_Kind_line : PySem.W.findIn K (.ref C_Kind) "line" = some none)
    (no_Kind_fields : PySem.W.findIn K (.ref C_Kind) "fields" = some none)
    (mk_Kind : PySem.W.makesIn K C_Kind = true)
    (kc_Kind : PySem.W.keepIn K (.ref C_Kind) = true)
    (aC_Schema : PySem.W.nsIn K mainGlobals "Schema" = some (some (.ref C_Schema)))
    (pg_Schema : PySem.W.plainGet K C_Schema Str.empty = true)
    (hd_Schema : PySem.W.hasDictIn K C_Schema = true)
    (po_Schema : PySem.W.plainOver K C_Schema = true)
    (sa_Schema : PySem.W.findIn K (.ref C_Schema) "__setattr__" = some (some (.builtin "object.__setattr__")))
    (ha_Schema : PySem.W.findIn K (.ref C_Schema) "__class__" = some (some (.builtin "object.__class__")))
    (hn_Schema : PySem.W.specialIn K (.builtin "object.__class__") "__get__" = some (some (.builtin "getset_descriptor.__get__")))
    (ht_Schema : PySem.W.takesIn K (.builtin "object.__class__") = some true)
    (hm_Schema : PySem.W.mroIn K C_Schema (.type "object") = some true)
    (k1_Schema : PySem.W.kitOne K (.ref C_Schema) (.ref C_Schema) = some true)
    (b1_Schema : PySem.W.kitOne K (.type "NoneType") (.ref C_Schema) = some false)
    (b2_Schema : PySem.W.kitOne K (.type "bool") (.ref C_Schema) = some false)
    (b3_Schema : PySem.W.kitOne K (.type "int") (.ref C_Schema) = some false)
    (b4_Schema : PySem.W.kitOne K (.type "str") (.ref C_Schema) = some false)
    (b5_Schema : PySem.W.kitOne K (.type "list") (.ref C_Schema) = some false)
    (b6_Schema : PySem.W.kitOne K (.type "tuple") (.ref C_Schema) = some false)
    (b7_Schema : PySem.W.kitOne K (.type "dict") (.ref C_Schema) = some false)
    (no_Schema_rows : PySem.W.findIn K (.ref C_Schema) "rows" = some none)
    (no_Schema_names : PySem.W.findIn K (.ref C_Schema) "names" = some none)
    (no_Schema_known : PySem.W.findIn K (.ref C_Schema) "known" = some none)
    (nf1_Schema : PySem.W.notFirst K C_Schema (.type "NoneType") = true)
    (nf2_Schema : PySem.W.notFirst K C_Schema (.type "bool") = true)
    (nf3_Schema : PySem.W.notFirst K C_Schema (.type "int") = true)
    (nf4_Schema : PySem.W.notFirst K C_Schema (.type "str") = true)
    (nf5_Schema : PySem.W.notFirst K C_Schema (.type "list") = true)
    (nf6_Schema : PySem.W.notFirst K C_Schema (.type "tuple") = true)
    (nf7_Schema : PySem.W.notFirst K C_Schema (.type "dict") = true)
    (nfo_Schema : PySem.W.notFirst K C_Schema (.ref C_Schema) = true)
    (mk_Schema : PySem.W.makesIn K C_Schema = true)
    (kc_Schema : PySem.W.keepIn K (.ref C_Schema) = true)
    (cr1_Schema : PySem.W.readsIn K C_Schema (.type "type") = true)
    (cr2_Schema : PySem.W.specialIn K (.ref C_Schema) "__getattribute__" = some (some (.builtin "type.__getattribute__")))
    (cr3_Schema_MOST : PySem.W.findCls K (.ref C_Schema) (.type "type") "MOST" = some (.val cu_Schema_MOST))
    (cr4_Schema_MOST : RelV (.int 6) cu_Schema_MOST)
    (cr3_Schema_FIELDS : PySem.W.findCls K (.ref C_Schema) (.type "type") "FIELDS" = some (.val cu_Schema_FIELDS))
    (cr4_Schema_FIELDS : RelV (.int 4) cu_Schema_FIELDS)
    (aG_MARKS : PySem.W.nsIn K mainGlobals "MARKS" = some (some (.ref A_MARKS)))
    (lt_MARKS : K.lookup A_MARKS = some ⟨.type "tuple", td_MARKS, .seq ti_MARKS tn_MARKS, ts_MARKS⟩)
    (ls_MARKS : decide (ti_MARKS.size ≤ 16777216) = true)
    (lv_MARKS : Vals (MARKSl.map V.str) ti_MARKS.toList)
    (aG_ACTS : PySem.W.nsIn K mainGlobals "ACTS" = some (some (.ref A_ACTS)))
    (lt_ACTS : K.lookup A_ACTS = some ⟨.type "tuple", td_ACTS, .seq ti_ACTS tn_ACTS, ts_ACTS⟩)
    (ls_ACTS : decide (ti_ACTS.size ≤ 16777216) = true)
    (lv_ACTS : Vals (ACTSl.map V.str) ti_ACTS.toList)
    (aG_BY : PySem.W.nsIn K mainGlobals "BY" = some (some (.ref A_BY)))
    (lt_BY : K.lookup A_BY = some ⟨.type "tuple", td_BY, .seq ti_BY tn_BY, ts_BY⟩)
    (ls_BY : decide (ti_BY.size ≤ 16777216) = true)
    (lv_BY : Vals (BYl.map V.str) ti_BY.toList)
    (aG_KEEPS : PySem.W.nsIn K mainGlobals "KEEPS" = some (some (.ref A_KEEPS)))
    (lt_KEEPS : K.lookup A_KEEPS = some ⟨.type "tuple", td_KEEPS, .seq ti_KEEPS tn_KEEPS, ts_KEEPS⟩)
    (ls_KEEPS : decide (ti_KEEPS.size ≤ 16777216) = true)
    (lv_KEEPS : Vals (KEEPSl.map V.str) ti_KEEPS.toList)
    (aC_Guard : PySem.W.nsIn K mainGlobals "Guard" = some (some (.ref C_Guard)))
    (pg_Guard : PySem.W.plainGet K C_Guard Str.empty = true)
    (hd_Guard : PySem.W.hasDictIn K C_Guard = true)
    (po_Guard : PySem.W.plainOver K C_Guard = true)
    (sa_Guard : PySem.W.findIn K (.ref C_Guard) "__setattr__" = some (some (.builtin "object.__setattr__")))
    (ha_Guard : PySem.W.findIn K (.ref C_Guard) "__class__" = some (some (.builtin "object.__class__")))
    (hn_Guard : PySem.W.specialIn K (.builtin "object.__class__") "__get__" = some (some (.builtin "getset_descriptor.__get__")))
    (ht_Guard : PySem.W.takesIn K (.builtin "object.__class__") = some true)
    (hm_Guard : PySem.W.mroIn K C_Guard (.type "object") = some true)
    (k1_Guard : PySem.W.kitOne K (.ref C_Guard) (.ref C_Guard) = some true)
    (b1_Guard : PySem.W.kitOne K (.type "NoneType") (.ref C_Guard) = some false)
    (b2_Guard : PySem.W.kitOne K (.type "bool") (.ref C_Guard) = some false)
    (b3_Guard : PySem.W.kitOne K (.type "int") (.ref C_Guard) = some false)
    (b4_Guard : PySem.W.kitOne K (.type "str") (.ref C_Guard) = some false)
    (b5_Guard : PySem.W.kitOne K (.type "list") (.ref C_Guard) = some false)
    (b6_Guard : PySem.W.kitOne K (.type "tuple") (.ref C_Guard) = some false)
    (b7_Guard : PySem.W.kitOne K (.type "dict") (.ref C_Guard) = some false)
    (no_Guard_mark : PySem.W.findIn K (.ref C_Guard) "mark" = some none)
    (no_Guard_act : PySem.W.findIn K (.ref C_Guard) "act" = some none)
    (no_Guard_by : PySem.W.findIn K (.ref C_Guard) "by" = some none)
    (no_Guard_keep : PySem.W.findIn K (.ref C_Guard) "keep" = some none)
    (no_Guard_keep_by : PySem.W.findIn K (.ref C_Guard) "keep_by" = some none)
    (nf1_Guard : PySem.W.notFirst K C_Guard (.type "NoneType") = true)
    (nf2_Guard : PySem.W.notFirst K C_Guard (.type "bool") = true)
    (nf3_Guard : PySem.W.notFirst K C_Guard (.type "int") = true)
    (nf4_Guard : PySem.W.notFirst K C_Guard (.type "str") = true)
    (nf5_Guard : PySem.W.notFirst K C_Guard (.type "list") = true)
    (nf6_Guard : PySem.W.notFirst K C_Guard (.type "tuple") = true)
    (nf7_Guard : PySem.W.notFirst K C_Guard (.type "dict") = true)
    (nfo_Guard : PySem.W.notFirst K C_Guard (.ref C_Guard) = true)
    (mk_Guard : PySem.W.makesIn K C_Guard = true)
    (kc_Guard : PySem.W.keepIn K (.ref C_Guard) = true)
    (a_Guard_init : PySem.W.findIn K (.ref C_Guard) "__init__" = some (some (.ref f_Guard_init)))
    (i_Guard_init : PySem.W.isFn K (.ref f_Guard_init) = true)
    (l_Guard_init : K.lookup f_Guard_init = some ⟨oc_Guard_init, od_Guard_init, .func (PySem.W.fnOf "__init__" "Guard.__init__" (defArgs s_Guard_init) (defBody s_Guard_init) (defScope s_Guard_init) (.ref dT_Guard_init) (.ref kD_Guard_init) dc_Guard_init pm_Guard_init an_Guard_init cd_Guard_init ct_Guard_init), sl_Guard_init⟩)
    (c_Guard_init : PySem.W.codeIn K cd_Guard_init "Guard.__init__" = true)
    (k_Guard_init : PySem.W.keepIn K (.ref f_Guard_init) = true)
    (dl_Guard_init : K.lookup dT_Guard_init = some ⟨dc_TGuard_init, dd_TGuard_init, .seq di_TGuard_init dn_TGuard_init, ds_TGuard_init⟩)
    (dv_Guard_init : Vals [.str "none"] di_TGuard_init.toList)
    (kw0_Guard_init : PySem.W.nsIn K kD_Guard_init "act" = some (some ku0_Guard_init))
    (kr0_Guard_init : RelV (.str "ring") ku0_Guard_init)
    (kw1_Guard_init : PySem.W.nsIn K kD_Guard_init "by" = some (some ku1_Guard_init))
    (kr1_Guard_init : RelV (.str "same") ku1_Guard_init)
    (kw2_Guard_init : PySem.W.nsIn K kD_Guard_init "keep" = some (some ku2_Guard_init))
    (kr2_Guard_init : RelV (.str "none") ku2_Guard_init)
    (kw3_Guard_init : PySem.W.nsIn K kD_Guard_init "keep_by" = some (some ku3_Guard_init))
    (kr3_Guard_init : RelV (.str "same") ku3_Guard_init)
    (z_dict : PySem.W.nsIn K mainGlobals "dict" = some none)
    (z_min : PySem.W.nsIn K mainGlobals "min" = some none)
    (aG_MOST_LIMIT : PySem.W.nsIn K mainGlobals "MOST_LIMIT" = some (some u_MOST_LIMIT))
    (rG_MOST_LIMIT : RelV (.int 20) u_MOST_LIMIT)
    (aC_Walker : PySem.W.nsIn K mainGlobals "Walker" = some (some (.ref C_Walker)))
    (pg_Walker : PySem.W.plainGet K C_Walker Str.empty = true)
    (hd_Walker : PySem.W.hasDictIn K C_Walker = true)
    (po_Walker : PySem.W.plainOver K C_Walker = true)
    (sa_Walker : PySem.W.findIn K (.ref C_Walker) "__setattr__" = some (some (.builtin "object.__setattr__")))
    (ha_Walker : PySem.W.findIn K (.ref C_Walker) "__class__" = some (some (.builtin "object.__class__")))
    (hn_Walker : PySem.W.specialIn K (.builtin "object.__class__") "__get__" = some (some (.builtin "getset_descriptor.__get__")))
    (ht_Walker : PySem.W.takesIn K (.builtin "object.__class__") = some true)
    (hm_Walker : PySem.W.mroIn K C_Walker (.type "object") = some true)
    (k1_Walker : PySem.W.kitOne K (.ref C_Walker) (.ref C_Walker) = some true)
    (b1_Walker : PySem.W.kitOne K (.type "NoneType") (.ref C_Walker) = some false)
    (b2_Walker : PySem.W.kitOne K (.type "bool") (.ref C_Walker) = some false)
    (b3_Walker : PySem.W.kitOne K (.type "int") (.ref C_Walker) = some false)
    (b4_Walker : PySem.W.kitOne K (.type "str") (.ref C_Walker) = some false)
    (b5_Walker : PySem.W.kitOne K (.type "list") (.ref C_Walker) = some false)
    (b6_Walker : PySem.W.kitOne K (.type "tuple") (.ref C_Walker) = some false)
    (b7_Walker : PySem.W.kitOne K (.type "dict") (.ref C_Walker) = some false)
    (no_Walker_schema : PySem.W.findIn K (.ref C_Walker) "schema" = some none)
    (no_Walker_start : PySem.W.findIn K (.ref C_Walker) "start" = some none)
    (no_Walker_guards : PySem.W.findIn K (.ref C_Walker) "guards" = some none)
    (no_Walker_out : PySem.W.findIn K (.ref C_Walker) "out" = some none)
    (no_Walker_anew : PySem.W.findIn K (.ref C_Walker) "anew" = some none)
    (no_Walker_limit : PySem.W.findIn K (.ref C_Walker) "limit" = some none)
    (no_Walker_frees : PySem.W.findIn K (.ref C_Walker) "frees" = some none)
    (nf1_Walker : PySem.W.notFirst K C_Walker (.type "NoneType") = true)
    (nf2_Walker : PySem.W.notFirst K C_Walker (.type "bool") = true)
    (nf3_Walker : PySem.W.notFirst K C_Walker (.type "int") = true)
    (nf4_Walker : PySem.W.notFirst K C_Walker (.type "str") = true)
    (nf5_Walker : PySem.W.notFirst K C_Walker (.type "list") = true)
    (nf6_Walker : PySem.W.notFirst K C_Walker (.type "tuple") = true)
    (nf7_Walker : PySem.W.notFirst K C_Walker (.type "dict") = true)
    (nfo_Walker : PySem.W.notFirst K C_Walker (.ref C_Walker) = true)
    (mk_Walker : PySem.W.makesIn K C_Walker = true)
    (kc_Walker : PySem.W.keepIn K (.ref C_Walker) = true)
    (a_Walker_init : PySem.W.findIn K (.ref C_Walker) "__init__" = some (some (.ref f_Walker_init)))
    (i_Walker_init : PySem.W.isFn K (.ref f_Walker_init) = true)
    (l_Walker_init : K.lookup f_Walker_init = some ⟨oc_Walker_init, od_Walker_init, .func (PySem.W.fnOf "__init__" "Walker.__init__" (defArgs s_Walker_init) (defBody s_Walker_init) (defScope s_Walker_init) .none (.ref kD_Walker_init) dc_Walker_init pm_Walker_init an_Walker_init cd_Walker_init ct_Walker_init), sl_Walker_init⟩)
    (c_Walker_init : PySem.W.codeIn K cd_Walker_init "Walker.__init__" = true)
    (k_Walker_init : PySem.W.keepIn K (.ref f_Walker_init) = true)
    (kw0_Walker_init : PySem.W.nsIn K kD_Walker_init "guards" = some (some ku0_Walker_init))
    (kr0_Walker_init : RelV (.ref dW_guards) ku0_Walker_init)
    (kw1_Walker_init : PySem.W.nsIn K kD_Walker_init "out" = some (some ku1_Walker_init))
    (kr1_Walker_init : RelV (.ref dW_out) ku1_Walker_init)
    (kw2_Walker_init : PySem.W.nsIn K kD_Walker_init "anew" = some (some ku2_Walker_init))
    (kr2_Walker_init : RelV (.ref dW_anew) ku2_Walker_init)
    (kw3_Walker_init : PySem.W.nsIn K kD_Walker_init "limit" = some (some ku3_Walker_init))
    (kr3_Walker_init : RelV (.non) ku3_Walker_init)
    (kw4_Walker_init : PySem.W.nsIn K kD_Walker_init "frees" = some (some ku4_Walker_init))
    (kr4_Walker_init : RelV (.bl true) ku4_Walker_init)
    (ne_Walker : PySem.W.findIn K (.ref C_Walker) "__ne__" = some (some (.builtin "object.__ne__")))
    (ks0_Walker : PySem.W.kitOne K (.ref C_Schema) (.ref C_Walker) = some false)
    (nfs_Walker : PySem.W.notFirst K C_Walker (.ref C_Schema) = true)
    (a_is_letters : PySem.W.nsIn K mainGlobals "is_letters" = some (some (.ref f_is_letters)))
    (l_is_letters : K.lookup f_is_letters = some ⟨oc_is_letters, od_is_letters, .func (PySem.W.fnOf "is_letters" "is_letters" (defArgs s_is_letters) (defBody s_is_letters) (defScope s_is_letters) .none kV_is_letters dc_is_letters pm_is_letters an_is_letters cd_is_letters ct_is_letters), sl_is_letters⟩)
    (c_is_letters : PySem.W.codeIn K cd_is_letters "is_letters" = true)
    (k_is_letters : PySem.W.keepIn K (.ref f_is_letters) = true)
    (a_is_kind_name : PySem.W.nsIn K mainGlobals "is_kind_name" = some (some (.ref f_is_kind_name)))
    (l_is_kind_name : K.lookup f_is_kind_name = some ⟨oc_is_kind_name, od_is_kind_name, .func (PySem.W.fnOf "is_kind_name" "is_kind_name" (defArgs s_is_kind_name) (defBody s_is_kind_name) (defScope s_is_kind_name) .none kV_is_kind_name dc_is_kind_name pm_is_kind_name an_is_kind_name cd_is_kind_name ct_is_kind_name), sl_is_kind_name⟩)
    (c_is_kind_name : PySem.W.codeIn K cd_is_kind_name "is_kind_name" = true)
    (k_is_kind_name : PySem.W.keepIn K (.ref f_is_kind_name) = true)
    (a_is_field_name : PySem.W.nsIn K mainGlobals "is_field_name" = some (some (.ref f_is_field_name)))
    (l_is_field_name : K.lookup f_is_field_name = some ⟨oc_is_field_name, od_is_field_name, .func (PySem.W.fnOf "is_field_name" "is_field_name" (defArgs s_is_field_name) (defBody s_is_field_name) (defScope s_is_field_name) .none kV_is_field_name dc_is_field_name pm_is_field_name an_is_field_name cd_is_field_name ct_is_field_name), sl_is_field_name⟩)
    (c_is_field_name : PySem.W.codeIn K cd_is_field_name "is_field_name" = true)
    (k_is_field_name : PySem.W.keepIn K (.ref f_is_field_name) = true)
    (a_is_mode : PySem.W.nsIn K mainGlobals "is_mode" = some (some (.ref f_is_mode)))
    (l_is_mode : K.lookup f_is_mode = some ⟨oc_is_mode, od_is_mode, .func (PySem.W.fnOf "is_mode" "is_mode" (defArgs s_is_mode) (defBody s_is_mode) (defScope s_is_mode) .none kV_is_mode dc_is_mode pm_is_mode an_is_mode cd_is_mode ct_is_mode), sl_is_mode⟩)
    (c_is_mode : PySem.W.codeIn K cd_is_mode "is_mode" = true)
    (k_is_mode : PySem.W.keepIn K (.ref f_is_mode) = true)
    (a_is_field : PySem.W.nsIn K mainGlobals "is_field" = some (some (.ref f_is_field)))
    (l_is_field : K.lookup f_is_field = some ⟨oc_is_field, od_is_field, .func (PySem.W.fnOf "is_field" "is_field" (defArgs s_is_field) (defBody s_is_field) (defScope s_is_field) .none kV_is_field dc_is_field pm_is_field an_is_field cd_is_field ct_is_field), sl_is_field⟩)
    (c_is_field : PySem.W.codeIn K cd_is_field "is_field" = true)
    (k_is_field : PySem.W.keepIn K (.ref f_is_field) = true)
    (a_is_bases : PySem.W.nsIn K mainGlobals "is_bases" = some (some (.ref f_is_bases)))
    (l_is_bases : K.lookup f_is_bases = some ⟨oc_is_bases, od_is_bases, .func (PySem.W.fnOf "is_bases" "is_bases" (defArgs s_is_bases) (defBody s_is_bases) (defScope s_is_bases) .none kV_is_bases dc_is_bases pm_is_bases an_is_bases cd_is_bases ct_is_bases), sl_is_bases⟩)
    (c_is_bases : PySem.W.codeIn K cd_is_bases "is_bases" = true)
    (k_is_bases : PySem.W.keepIn K (.ref f_is_bases) = true)
    (a_Kind_init : PySem.W.findIn K (.ref C_Kind) "__init__" = some (some (.ref f_Kind_init)))
    (i_Kind_init : PySem.W.isFn K (.ref f_Kind_init) = true)
    (l_Kind_init : K.lookup f_Kind_init = some ⟨oc_Kind_init, od_Kind_init, .func (PySem.W.fnOf "__init__" "Kind.__init__" (defArgs s_Kind_init) (defBody s_Kind_init) (defScope s_Kind_init) .none kV_Kind_init dc_Kind_init pm_Kind_init an_Kind_init cd_Kind_init ct_Kind_init), sl_Kind_init⟩)
    (c_Kind_init : PySem.W.codeIn K cd_Kind_init "Kind.__init__" = true)
    (k_Kind_init : PySem.W.keepIn K (.ref f_Kind_init) = true)
    (a_make_kind : PySem.W.nsIn K mainGlobals "make_kind" = some (some (.ref f_make_kind)))
    (l_make_kind : K.lookup f_make_kind = some ⟨oc_make_kind, od_make_kind, .func (PySem.W.fnOf "make_kind" "make_kind" (defArgs s_make_kind) (defBody s_make_kind) (defScope s_make_kind) .none kV_make_kind dc_make_kind pm_make_kind an_make_kind cd_make_kind ct_make_kind), sl_make_kind⟩)
    (c_make_kind : PySem.W.codeIn K cd_make_kind "make_kind" = true)
    (k_make_kind : PySem.W.keepIn K (.ref f_make_kind) = true)
    (a_Schema_init : PySem.W.findIn K (.ref C_Schema) "__init__" = some (some (.ref f_Schema_init)))
    (i_Schema_init : PySem.W.isFn K (.ref f_Schema_init) = true)
    (l_Schema_init : K.lookup f_Schema_init = some ⟨oc_Schema_init, od_Schema_init, .func (PySem.W.fnOf "__init__" "Schema.__init__" (defArgs s_Schema_init) (defBody s_Schema_init) (defScope s_Schema_init) .none kV_Schema_init dc_Schema_init pm_Schema_init an_Schema_init cd_Schema_init ct_Schema_init), sl_Schema_init⟩)
    (c_Schema_init : PySem.W.codeIn K cd_Schema_init "Schema.__init__" = true)
    (k_Schema_init : PySem.W.keepIn K (.ref f_Schema_init) = true)
    (a_Schema_getitem : PySem.W.findIn K (.ref C_Schema) "__getitem__" = some (some (.ref f_Schema_getitem)))
    (i_Schema_getitem : PySem.W.isFn K (.ref f_Schema_getitem) = true)
    (l_Schema_getitem : K.lookup f_Schema_getitem = some ⟨oc_Schema_getitem, od_Schema_getitem, .func (PySem.W.fnOf "__getitem__" "Schema.__getitem__" (defArgs s_Schema_getitem) (defBody s_Schema_getitem) (defScope s_Schema_getitem) .none kV_Schema_getitem dc_Schema_getitem pm_Schema_getitem an_Schema_getitem cd_Schema_getitem ct_Schema_getitem), sl_Schema_getitem⟩)
    (c_Schema_getitem : PySem.W.codeIn K cd_Schema_getitem "Schema.__getitem__" = true)
    (k_Schema_getitem : PySem.W.keepIn K (.ref f_Schema_getitem) = true)
    (a_Schema_under : PySem.W.findIn K (.ref C_Schema) "under" = some (some (.ref f_Schema_under)))
    (i_Schema_under : PySem.W.isFn K (.ref f_Schema_under) = true)
    (l_Schema_under : K.lookup f_Schema_under = some ⟨oc_Schema_under, od_Schema_under, .func (PySem.W.fnOf "under" "Schema.under" (defArgs s_Schema_under) (defBody s_Schema_under) (defScope s_Schema_under) .none kV_Schema_under dc_Schema_under pm_Schema_under an_Schema_under cd_Schema_under ct_Schema_under), sl_Schema_under⟩)
    (c_Schema_under : PySem.W.codeIn K cd_Schema_under "Schema.under" = true)
    (k_Schema_under : PySem.W.keepIn K (.ref f_Schema_under) = true)
    (a_is_choice : PySem.W.nsIn K mainGlobals "is_choice" = some (some (.ref f_is_choice)))
    (l_is_choice : K.lookup f_is_choice = some ⟨oc_is_choice, od_is_choice, .func (PySem.W.fnOf "is_choice" "is_choice" (defArgs s_is_choice) (defBody s_is_choice) (defScope s_is_choice) .none kV_is_choice dc_is_choice pm_is_choice an_is_choice cd_is_choice ct_is_choice), sl_is_choice⟩)
    (c_is_choice : PySem.W.codeIn K cd_is_choice "is_choice" = true)
    (k_is_choice : PySem.W.keepIn K (.ref f_is_choice) = true)
    (a_Schema_contains : PySem.W.findIn K (.ref C_Schema) "__contains__" = some (some (.ref f_Schema_contains)))
    (i_Schema_contains : PySem.W.isFn K (.ref f_Schema_contains) = true)
    (l_Schema_contains : K.lookup f_Schema_contains = some ⟨oc_Schema_contains, od_Schema_contains, .func (PySem.W.fnOf "__contains__" "Schema.__contains__" (defArgs s_Schema_contains) (defBody s_Schema_contains) (defScope s_Schema_contains) .none kV_Schema_contains dc_Schema_contains pm_Schema_contains an_Schema_contains cd_Schema_contains ct_Schema_contains), sl_Schema_contains⟩)
    (c_Schema_contains : PySem.W.codeIn K cd_Schema_contains "Schema.__contains__" = true)
    (k_Schema_contains : PySem.W.keepIn K (.ref f_Schema_contains) = true)
    (a_is_start : PySem.W.nsIn K mainGlobals "is_start" = some (some (.ref f_is_start)))
    (l_is_start : K.lookup f_is_start = some ⟨oc_is_start, od_is_start, .func (PySem.W.fnOf "is_start" "is_start" (defArgs s_is_start) (defBody s_is_start) (defScope s_is_start) .none kV_is_start dc_is_start pm_is_start an_is_start cd_is_start ct_is_start), sl_is_start⟩)
    (c_is_start : PySem.W.codeIn K cd_is_start "is_start" = true)
    (k_is_start : PySem.W.keepIn K (.ref f_is_start) = true)
    (a_is_pairs : PySem.W.nsIn K mainGlobals "is_pairs" = some (some (.ref f_is_pairs)))
    (l_is_pairs : K.lookup f_is_pairs = some ⟨oc_is_pairs, od_is_pairs, .func (PySem.W.fnOf "is_pairs" "is_pairs" (defArgs s_is_pairs) (defBody s_is_pairs) (defScope s_is_pairs) .none kV_is_pairs dc_is_pairs pm_is_pairs an_is_pairs cd_is_pairs ct_is_pairs), sl_is_pairs⟩)
    (c_is_pairs : PySem.W.codeIn K cd_is_pairs "is_pairs" = true)
    (k_is_pairs : PySem.W.keepIn K (.ref f_is_pairs) = true)
    (a_is_guards : PySem.W.nsIn K mainGlobals "is_guards" = some (some (.ref f_is_guards)))
    (l_is_guards : K.lookup f_is_guards = some ⟨oc_is_guards, od_is_guards, .func (PySem.W.fnOf "is_guards" "is_guards" (defArgs s_is_guards) (defBody s_is_guards) (defScope s_is_guards) .none kV_is_guards dc_is_guards pm_is_guards an_is_guards cd_is_guards ct_is_guards), sl_is_guards⟩)
    (c_is_guards : PySem.W.codeIn K cd_is_guards "is_guards" = true)
    (k_is_guards : PySem.W.keepIn K (.ref f_is_guards) = true)
    (a_is_owned : PySem.W.nsIn K mainGlobals "is_owned" = some (some (.ref f_is_owned)))
    (l_is_owned : K.lookup f_is_owned = some ⟨oc_is_owned, od_is_owned, .func (PySem.W.fnOf "is_owned" "is_owned" (defArgs s_is_owned) (defBody s_is_owned) (defScope s_is_owned) .none kV_is_owned dc_is_owned pm_is_owned an_is_owned cd_is_owned ct_is_owned), sl_is_owned⟩)
    (c_is_owned : PySem.W.codeIn K cd_is_owned "is_owned" = true)
    (k_is_owned : PySem.W.keepIn K (.ref f_is_owned) = true)
    (a_is_fields : PySem.W.nsIn K mainGlobals "is_fields" = some (some (.ref f_is_fields)))
    (l_is_fields : K.lookup f_is_fields = some ⟨oc_is_fields, od_is_fields, .func (PySem.W.fnOf "is_fields" "is_fields" (defArgs s_is_fields) (defBody s_is_fields) (defScope s_is_fields) .none kV_is_fields dc_is_fields pm_is_fields an_is_fields cd_is_fields ct_is_fields), sl_is_fields⟩)
    (c_is_fields : PySem.W.codeIn K cd_is_fields "is_fields" = true)
    (k_is_fields : PySem.W.keepIn K (.ref f_is_fields) = true)
    (a_is_limit : PySem.W.nsIn K mainGlobals "is_limit" = some (some (.ref f_is_limit)))
    (l_is_limit : K.lookup f_is_limit = some ⟨oc_is_limit, od_is_limit, .func (PySem.W.fnOf "is_limit" "is_limit" (defArgs s_is_limit) (defBody s_is_limit) (defScope s_is_limit) .none kV_is_limit dc_is_limit pm_is_limit an_is_limit cd_is_limit ct_is_limit), sl_is_limit⟩)
    (c_is_limit : PySem.W.codeIn K cd_is_limit "is_limit" = true)
    (k_is_limit : PySem.W.keepIn K (.ref f_is_limit) = true)
    (a_wrong_part : PySem.W.nsIn K mainGlobals "wrong_part" = some (some (.ref f_wrong_part)))
    (l_wrong_part : K.lookup f_wrong_part = some ⟨oc_wrong_part, od_wrong_part, .func (PySem.W.fnOf "wrong_part" "wrong_part" (defArgs s_wrong_part) (defBody s_wrong_part) (defScope s_wrong_part) .none kV_wrong_part dc_wrong_part pm_wrong_part an_wrong_part cd_wrong_part ct_wrong_part), sl_wrong_part⟩)
    (c_wrong_part : PySem.W.codeIn K cd_wrong_part "wrong_part" = true)
    (k_wrong_part : PySem.W.keepIn K (.ref f_wrong_part) = true)
    (a_guards_in_order : PySem.W.nsIn K mainGlobals "guards_in_order" = some (some (.ref f_guards_in_order)))
    (l_guards_in_order : K.lookup f_guards_in_order = some ⟨oc_guards_in_order, od_guards_in_order, .func (PySem.W.fnOf "guards_in_order" "guards_in_order" (defArgs s_guards_in_order) (defBody s_guards_in_order) (defScope s_guards_in_order) .none kV_guards_in_order dc_guards_in_order pm_guards_in_order an_guards_in_order cd_guards_in_order ct_guards_in_order), sl_guards_in_order⟩)
    (c_guards_in_order : PySem.W.codeIn K cd_guards_in_order "guards_in_order" = true)
    (k_guards_in_order : PySem.W.keepIn K (.ref f_guards_in_order) = true)
    (a_fields_in_order : PySem.W.nsIn K mainGlobals "fields_in_order" = some (some (.ref f_fields_in_order)))
    (l_fields_in_order : K.lookup f_fields_in_order = some ⟨oc_fields_in_order, od_fields_in_order, .func (PySem.W.fnOf "fields_in_order" "fields_in_order" (defArgs s_fields_in_order) (defBody s_fields_in_order) (defScope s_fields_in_order) .none kV_fields_in_order dc_fields_in_order pm_fields_in_order an_fields_in_order cd_fields_in_order ct_fields_in_order), sl_fields_in_order⟩)
    (c_fields_in_order : PySem.W.codeIn K cd_fields_in_order "fields_in_order" = true)
    (k_fields_in_order : PySem.W.keepIn K (.ref f_fields_in_order) = true)
    (a_Schema_eq : PySem.W.findIn K (.ref C_Schema) "__eq__" = some (some (.ref f_Schema_eq)))
    (i_Schema_eq : PySem.W.isFn K (.ref f_Schema_eq) = true)
    (l_Schema_eq : K.lookup f_Schema_eq = some ⟨oc_Schema_eq, od_Schema_eq, .func (PySem.W.fnOf "__eq__" "Schema.__eq__" (defArgs s_Schema_eq) (defBody s_Schema_eq) (defScope s_Schema_eq) .none kV_Schema_eq dc_Schema_eq pm_Schema_eq an_Schema_eq cd_Schema_eq ct_Schema_eq), sl_Schema_eq⟩)
    (c_Schema_eq : PySem.W.codeIn K cd_Schema_eq "Schema.__eq__" = true)
    (k_Schema_eq : PySem.W.keepIn K (.ref f_Schema_eq) = true)
    (a_Guard_eq : PySem.W.findIn K (.ref C_Guard) "__eq__" = some (some (.ref f_Guard_eq)))
    (i_Guard_eq : PySem.W.isFn K (.ref f_Guard_eq) = true)
    (l_Guard_eq : K.lookup f_Guard_eq = some ⟨oc_Guard_eq, od_Guard_eq, .func (PySem.W.fnOf "__eq__" "Guard.__eq__" (defArgs s_Guard_eq) (defBody s_Guard_eq) (defScope s_Guard_eq) .none kV_Guard_eq dc_Guard_eq pm_Guard_eq an_Guard_eq cd_Guard_eq ct_Guard_eq), sl_Guard_eq⟩)
    (c_Guard_eq : PySem.W.codeIn K cd_Guard_eq "Guard.__eq__" = true)
    (k_Guard_eq : PySem.W.keepIn K (.ref f_Guard_eq) = true)
    (a_Guard_str : PySem.W.findIn K (.ref C_Guard) "__str__" = some (some (.ref f_Guard_str)))
    (i_Guard_str : PySem.W.isFn K (.ref f_Guard_str) = true)
    (l_Guard_str : K.lookup f_Guard_str = some ⟨oc_Guard_str, od_Guard_str, .func (PySem.W.fnOf "__str__" "Guard.__str__" (defArgs s_Guard_str) (defBody s_Guard_str) (defScope s_Guard_str) .none kV_Guard_str dc_Guard_str pm_Guard_str an_Guard_str cd_Guard_str ct_Guard_str), sl_Guard_str⟩)
    (c_Guard_str : PySem.W.codeIn K cd_Guard_str "Guard.__str__" = true)
    (k_Guard_str : PySem.W.keepIn K (.ref f_Guard_str) = true)
    (a_Walker_parts : PySem.W.findIn K (.ref C_Walker) "parts" = some (some (.ref f_Walker_parts)))
    (i_Walker_parts : PySem.W.isFn K (.ref f_Walker_parts) = true)
    (l_Walker_parts : K.lookup f_Walker_parts = some ⟨oc_Walker_parts, od_Walker_parts, .func (PySem.W.fnOf "parts" "Walker.parts" (defArgs s_Walker_parts) (defBody s_Walker_parts) (defScope s_Walker_parts) .none kV_Walker_parts dc_Walker_parts pm_Walker_parts an_Walker_parts cd_Walker_parts ct_Walker_parts), sl_Walker_parts⟩)
    (c_Walker_parts : PySem.W.codeIn K cd_Walker_parts "Walker.parts" = true)
    (k_Walker_parts : PySem.W.keepIn K (.ref f_Walker_parts) = true)
    (a_Walker_eq : PySem.W.findIn K (.ref C_Walker) "__eq__" = some (some (.ref f_Walker_eq)))
    (i_Walker_eq : PySem.W.isFn K (.ref f_Walker_eq) = true)
    (l_Walker_eq : K.lookup f_Walker_eq = some ⟨oc_Walker_eq, od_Walker_eq, .func (PySem.W.fnOf "__eq__" "Walker.__eq__" (defArgs s_Walker_eq) (defBody s_Walker_eq) (defScope s_Walker_eq) .none kV_Walker_eq dc_Walker_eq pm_Walker_eq an_Walker_eq cd_Walker_eq ct_Walker_eq), sl_Walker_eq⟩)
    (c_Walker_eq : PySem.W.codeIn K cd_Walker_eq "Walker.__eq__" = true)
    (k_Walker_eq : PySem.W.keepIn K (.ref f_Walker_eq) = true)
    (a_walker_text : PySem.W.nsIn K mainGlobals "walker_text" = some (some (.ref f_walker_text)))
    (l_walker_text : K.lookup f_walker_text = some ⟨oc_walker_text, od_walker_text, .func (PySem.W.fnOf "walker_text" "walker_text" (defArgs s_walker_text) (defBody s_walker_text) (defScope s_walker_text) .none kV_walker_text dc_walker_text pm_walker_text an_walker_text cd_walker_text ct_walker_text), sl_walker_text⟩)
    (c_walker_text : PySem.W.codeIn K cd_walker_text "walker_text" = true)
    (k_walker_text : PySem.W.keepIn K (.ref f_walker_text) = true)
    (a_Walker_str : PySem.W.findIn K (.ref C_Walker) "__str__" = some (some (.ref f_Walker_str)))
    (i_Walker_str : PySem.W.isFn K (.ref f_Walker_str) = true)
    (l_Walker_str : K.lookup f_Walker_str = some ⟨oc_Walker_str, od_Walker_str, .func (PySem.W.fnOf "__str__" "Walker.__str__" (defArgs s_Walker_str) (defBody s_Walker_str) (defScope s_Walker_str) .none kV_Walker_str dc_Walker_str pm_Walker_str an_Walker_str cd_Walker_str ct_Walker_str), sl_Walker_str⟩)
    (c_Walker_str : PySem.W.codeIn K cd_Walker_str "Walker.__str__" = true)
    (k_Walker_str : PySem.W.keepIn K (.ref f_Walker_str) = true)
    (a_l_pen : PySem.W.nsIn K mainGlobals "_law_pen" = some (some (.ref f_l_pen)))
    (l_l_pen : K.lookup f_l_pen = some ⟨oc_l_pen, od_l_pen, .func (PySem.W.fnOf "_law_pen" "_law_pen" (defArgs s_l_pen) (defBody s_l_pen) (defScope s_l_pen) .none kV_l_pen dc_l_pen pm_l_pen an_l_pen cd_l_pen ct_l_pen), sl_l_pen⟩)
    (c_l_pen : PySem.W.codeIn K cd_l_pen "_law_pen" = true)
    (k_l_pen : PySem.W.keepIn K (.ref f_l_pen) = true)
    (a_l_take : PySem.W.nsIn K mainGlobals "_law_take" = some (some (.ref f_l_take)))
    (l_l_take : K.lookup f_l_take = some ⟨oc_l_take, od_l_take, .func (PySem.W.fnOf "_law_take" "_law_take" (defArgs s_l_take) (defBody s_l_take) (defScope s_l_take) .none kV_l_take dc_l_take pm_l_take an_l_take cd_l_take ct_l_take), sl_l_take⟩)
    (c_l_take : PySem.W.codeIn K cd_l_take "_law_take" = true)
    (k_l_take : PySem.W.keepIn K (.ref f_l_take) = true)
    (a_l_bit : PySem.W.nsIn K mainGlobals "_law_bit" = some (some (.ref f_l_bit)))
    (l_l_bit : K.lookup f_l_bit = some ⟨oc_l_bit, od_l_bit, .func (PySem.W.fnOf "_law_bit" "_law_bit" (defArgs s_l_bit) (defBody s_l_bit) (defScope s_l_bit) .none kV_l_bit dc_l_bit pm_l_bit an_l_bit cd_l_bit ct_l_bit), sl_l_bit⟩)
    (c_l_bit : PySem.W.codeIn K cd_l_bit "_law_bit" = true)
    (k_l_bit : PySem.W.keepIn K (.ref f_l_bit) = true)
    (a_l_letters : PySem.W.nsIn K mainGlobals "_law_letters" = some (some (.ref f_l_letters)))
    (l_l_letters : K.lookup f_l_letters = some ⟨oc_l_letters, od_l_letters, .func (PySem.W.fnOf "_law_letters" "_law_letters" (defArgs s_l_letters) (defBody s_l_letters) (defScope s_l_letters) .none kV_l_letters dc_l_letters pm_l_letters an_l_letters cd_l_letters ct_l_letters), sl_l_letters⟩)
    (c_l_letters : PySem.W.codeIn K cd_l_letters "_law_letters" = true)
    (k_l_letters : PySem.W.keepIn K (.ref f_l_letters) = true)
    (a_l_names : PySem.W.nsIn K mainGlobals "_law_names" = some (some (.ref f_l_names)))
    (l_l_names : K.lookup f_l_names = some ⟨oc_l_names, od_l_names, .func (PySem.W.fnOf "_law_names" "_law_names" (defArgs s_l_names) (defBody s_l_names) (defScope s_l_names) .none kV_l_names dc_l_names pm_l_names an_l_names cd_l_names ct_l_names), sl_l_names⟩)
    (c_l_names : PySem.W.codeIn K cd_l_names "_law_names" = true)
    (k_l_names : PySem.W.keepIn K (.ref f_l_names) = true)
    (a_l_kind_names : PySem.W.nsIn K mainGlobals "_law_kind_names" = some (some (.ref f_l_kind_names)))
    (l_l_kind_names : K.lookup f_l_kind_names = some ⟨oc_l_kind_names, od_l_kind_names, .func (PySem.W.fnOf "_law_kind_names" "_law_kind_names" (defArgs s_l_kind_names) (defBody s_l_kind_names) (defScope s_l_kind_names) .none kV_l_kind_names dc_l_kind_names pm_l_kind_names an_l_kind_names cd_l_kind_names ct_l_kind_names), sl_l_kind_names⟩)
    (c_l_kind_names : PySem.W.codeIn K cd_l_kind_names "_law_kind_names" = true)
    (k_l_kind_names : PySem.W.keepIn K (.ref f_l_kind_names) = true)
    (a_l_field_names : PySem.W.nsIn K mainGlobals "_law_field_names" = some (some (.ref f_l_field_names)))
    (l_l_field_names : K.lookup f_l_field_names = some ⟨oc_l_field_names, od_l_field_names, .func (PySem.W.fnOf "_law_field_names" "_law_field_names" (defArgs s_l_field_names) (defBody s_l_field_names) (defScope s_l_field_names) .none kV_l_field_names dc_l_field_names pm_l_field_names an_l_field_names cd_l_field_names ct_l_field_names), sl_l_field_names⟩)
    (c_l_field_names : PySem.W.codeIn K cd_l_field_names "_law_field_names" = true)
    (k_l_field_names : PySem.W.keepIn K (.ref f_l_field_names) = true)
    (a_l_line : PySem.W.nsIn K mainGlobals "_law_line" = some (some (.ref f_l_line)))
    (l_l_line : K.lookup f_l_line = some ⟨oc_l_line, od_l_line, .func (PySem.W.fnOf "_law_line" "_law_line" (defArgs s_l_line) (defBody s_l_line) (defScope s_l_line) .none kV_l_line dc_l_line pm_l_line an_l_line cd_l_line ct_l_line), sl_l_line⟩)
    (c_l_line : PySem.W.codeIn K cd_l_line "_law_line" = true)
    (k_l_line : PySem.W.keepIn K (.ref f_l_line) = true)
    (a_l_fields : PySem.W.nsIn K mainGlobals "_law_fields" = some (some (.ref f_l_fields)))
    (l_l_fields : K.lookup f_l_fields = some ⟨oc_l_fields, od_l_fields, .func (PySem.W.fnOf "_law_fields" "_law_fields" (defArgs s_l_fields) (defBody s_l_fields) (defScope s_l_fields) .none kV_l_fields dc_l_fields pm_l_fields an_l_fields cd_l_fields ct_l_fields), sl_l_fields⟩)
    (c_l_fields : PySem.W.codeIn K cd_l_fields "_law_fields" = true)
    (k_l_fields : PySem.W.keepIn K (.ref f_l_fields) = true)
    (a_l_concrete : PySem.W.nsIn K mainGlobals "_law_concrete" = some (some (.ref f_l_concrete)))
    (l_l_concrete : K.lookup f_l_concrete = some ⟨oc_l_concrete, od_l_concrete, .func (PySem.W.fnOf "_law_concrete" "_law_concrete" (defArgs s_l_concrete) (defBody s_l_concrete) (defScope s_l_concrete) .none kV_l_concrete dc_l_concrete pm_l_concrete an_l_concrete cd_l_concrete ct_l_concrete), sl_l_concrete⟩)
    (c_l_concrete : PySem.W.codeIn K cd_l_concrete "_law_concrete" = true)
    (k_l_concrete : PySem.W.keepIn K (.ref f_l_concrete) = true)
    (a_l_under : PySem.W.nsIn K mainGlobals "_law_under" = some (some (.ref f_l_under)))
    (l_l_under : K.lookup f_l_under = some ⟨oc_l_under, od_l_under, .func (PySem.W.fnOf "_law_under" "_law_under" (defArgs s_l_under) (defBody s_l_under) (defScope s_l_under) .none kV_l_under dc_l_under pm_l_under an_l_under cd_l_under ct_l_under), sl_l_under⟩)
    (c_l_under : PySem.W.codeIn K cd_l_under "_law_under" = true)
    (k_l_under : PySem.W.keepIn K (.ref f_l_under) = true)
    (a_l_merged : PySem.W.nsIn K mainGlobals "_law_merged" = some (some (.ref f_l_merged)))
    (l_l_merged : K.lookup f_l_merged = some ⟨oc_l_merged, od_l_merged, .func (PySem.W.fnOf "_law_merged" "_law_merged" (defArgs s_l_merged) (defBody s_l_merged) (defScope s_l_merged) .none kV_l_merged dc_l_merged pm_l_merged an_l_merged cd_l_merged ct_l_merged), sl_l_merged⟩)
    (c_l_merged : PySem.W.codeIn K cd_l_merged "_law_merged" = true)
    (k_l_merged : PySem.W.keepIn K (.ref f_l_merged) = true)
    (a_l_own_fields : PySem.W.nsIn K mainGlobals "_law_own_fields" = some (some (.ref f_l_own_fields)))
    (l_l_own_fields : K.lookup f_l_own_fields = some ⟨oc_l_own_fields, od_l_own_fields, .func (PySem.W.fnOf "_law_own_fields" "_law_own_fields" (defArgs s_l_own_fields) (defBody s_l_own_fields) (defScope s_l_own_fields) .none kV_l_own_fields dc_l_own_fields pm_l_own_fields an_l_own_fields cd_l_own_fields ct_l_own_fields), sl_l_own_fields⟩)
    (c_l_own_fields : PySem.W.codeIn K cd_l_own_fields "_law_own_fields" = true)
    (k_l_own_fields : PySem.W.keepIn K (.ref f_l_own_fields) = true)
    (a_l_rows : PySem.W.nsIn K mainGlobals "_law_rows" = some (some (.ref f_l_rows)))
    (l_l_rows : K.lookup f_l_rows = some ⟨oc_l_rows, od_l_rows, .func (PySem.W.fnOf "_law_rows" "_law_rows" (defArgs s_l_rows) (defBody s_l_rows) (defScope s_l_rows) .none kV_l_rows dc_l_rows pm_l_rows an_l_rows cd_l_rows ct_l_rows), sl_l_rows⟩)
    (c_l_rows : PySem.W.codeIn K cd_l_rows "_law_rows" = true)
    (k_l_rows : PySem.W.keepIn K (.ref f_l_rows) = true)
    (a_l_pick : PySem.W.nsIn K mainGlobals "_law_pick" = some (some (.ref f_l_pick)))
    (l_l_pick : K.lookup f_l_pick = some ⟨oc_l_pick, od_l_pick, .func (PySem.W.fnOf "_law_pick" "_law_pick" (defArgs s_l_pick) (defBody s_l_pick) (defScope s_l_pick) .none kV_l_pick dc_l_pick pm_l_pick an_l_pick cd_l_pick ct_l_pick), sl_l_pick⟩)
    (c_l_pick : PySem.W.codeIn K cd_l_pick "_law_pick" = true)
    (k_l_pick : PySem.W.keepIn K (.ref f_l_pick) = true)
    (a_l_guard_drawn : PySem.W.nsIn K mainGlobals "_law_guard_drawn" = some (some (.ref f_l_guard_drawn)))
    (l_l_guard_drawn : K.lookup f_l_guard_drawn = some ⟨oc_l_guard_drawn, od_l_guard_drawn, .func (PySem.W.fnOf "_law_guard_drawn" "_law_guard_drawn" (defArgs s_l_guard_drawn) (defBody s_l_guard_drawn) (defScope s_l_guard_drawn) .none kV_l_guard_drawn dc_l_guard_drawn pm_l_guard_drawn an_l_guard_drawn cd_l_guard_drawn ct_l_guard_drawn), sl_l_guard_drawn⟩)
    (c_l_guard_drawn : PySem.W.codeIn K cd_l_guard_drawn "_law_guard_drawn" = true)
    (k_l_guard_drawn : PySem.W.keepIn K (.ref f_l_guard_drawn) = true)
    (a_l_guard_made : PySem.W.nsIn K mainGlobals "_law_guard_made" = some (some (.ref f_l_guard_made)))
    (l_l_guard_made : K.lookup f_l_guard_made = some ⟨oc_l_guard_made, od_l_guard_made, .func (PySem.W.fnOf "_law_guard_made" "_law_guard_made" (defArgs s_l_guard_made) (defBody s_l_guard_made) (defScope s_l_guard_made) .none kV_l_guard_made dc_l_guard_made pm_l_guard_made an_l_guard_made cd_l_guard_made ct_l_guard_made), sl_l_guard_made⟩)
    (c_l_guard_made : PySem.W.codeIn K cd_l_guard_made "_law_guard_made" = true)
    (k_l_guard_made : PySem.W.keepIn K (.ref f_l_guard_made) = true)
    (a_l_walker : PySem.W.nsIn K mainGlobals "_law_walker" = some (some (.ref f_l_walker)))
    (l_l_walker : K.lookup f_l_walker = some ⟨oc_l_walker, od_l_walker, .func (PySem.W.fnOf "_law_walker" "_law_walker" (defArgs s_l_walker) (defBody s_l_walker) (defScope s_l_walker) .none kV_l_walker dc_l_walker pm_l_walker an_l_walker cd_l_walker ct_l_walker), sl_l_walker⟩)
    (c_l_walker : PySem.W.codeIn K cd_l_walker "_law_walker" = true)
    (k_l_walker : PySem.W.keepIn K (.ref f_l_walker) = true)
    (a_l_walker_made : PySem.W.nsIn K mainGlobals "_law_walker_made" = some (some (.ref f_l_walker_made)))
    (l_l_walker_made : K.lookup f_l_walker_made = some ⟨oc_l_walker_made, od_l_walker_made, .func (PySem.W.fnOf "_law_walker_made" "_law_walker_made" (defArgs s_l_walker_made) (defBody s_l_walker_made) (defScope s_l_walker_made) .none kV_l_walker_made dc_l_walker_made pm_l_walker_made an_l_walker_made cd_l_walker_made ct_l_walker_made), sl_l_walker_made⟩)
    (c_l_walker_made : PySem.W.codeIn K cd_l_walker_made "_law_walker_made" = true)
    (k_l_walker_made : PySem.W.keepIn K (.ref f_l_walker_made) = true)
    (a_l_key : PySem.W.nsIn K mainGlobals "_law_key" = some (some (.ref f_l_key)))
    (l_l_key : K.lookup f_l_key = some ⟨oc_l_key, od_l_key, .func (PySem.W.fnOf "_law_key" "_law_key" (defArgs s_l_key) (defBody s_l_key) (defScope s_l_key) .none kV_l_key dc_l_key pm_l_key an_l_key cd_l_key ct_l_key), sl_l_key⟩)
    (c_l_key : PySem.W.codeIn K cd_l_key "_law_key" = true)
    (k_l_key : PySem.W.keepIn K (.ref f_l_key) = true)
    (a_l_one_part : PySem.W.nsIn K mainGlobals "_law_one_part" = some (some (.ref f_l_one_part)))
    (l_l_one_part : K.lookup f_l_one_part = some ⟨oc_l_one_part, od_l_one_part, .func (PySem.W.fnOf "_law_one_part" "_law_one_part" (defArgs s_l_one_part) (defBody s_l_one_part) (defScope s_l_one_part) .none kV_l_one_part dc_l_one_part pm_l_one_part an_l_one_part cd_l_one_part ct_l_one_part), sl_l_one_part⟩)
    (c_l_one_part : PySem.W.codeIn K cd_l_one_part "_law_one_part" = true)
    (k_l_one_part : PySem.W.keepIn K (.ref f_l_one_part) = true)
    (a_l_turned : PySem.W.nsIn K mainGlobals "_law_turned" = some (some (.ref f_l_turned)))
    (l_l_turned : K.lookup f_l_turned = some ⟨oc_l_turned, od_l_turned, .func (PySem.W.fnOf "_law_turned" "_law_turned" (defArgs s_l_turned) (defBody s_l_turned) (defScope s_l_turned) .none kV_l_turned dc_l_turned pm_l_turned an_l_turned cd_l_turned ct_l_turned), sl_l_turned⟩)
    (c_l_turned : PySem.W.codeIn K cd_l_turned "_law_turned" = true)
    (k_l_turned : PySem.W.keepIn K (.ref f_l_turned) = true)
    (a_law : PySem.W.nsIn K mainGlobals "law" = some (some (.ref f_law)))
    (l_law : K.lookup f_law = some ⟨oc_law, od_law, .func (PySem.W.fnOf "law" "law" (defArgs s_law) (defBody s_law) (defScope s_law) .none kV_law dc_law pm_law an_law cd_law ct_law), sl_law⟩)
    (c_law : PySem.W.codeIn K cd_law "law" = true)
    (k_law : PySem.W.keepIn K (.ref f_law) = true)
    : ∃ fd : FuncData, (∀ (s : Shared) (v : Value), BindsTo s fd ⟨[v], []⟩ [("_law_script", v)]) ∧ ∀ base : Heap, K.In base → base.Ns mainGlobals mg → FnC l.prog w K mg base (L2.CX l.prog w) 13 fa fd ["_law_script"] (spLaw K) := by
  have e := hfa.symm.trans (PySem.W.mg_of X G a_law)
  cases e
  have er_BadSchema : ErC l.prog K "BadSchema.__init__" ["at"] C_BadSchema := er_mk PySem.W.kxs_ValueError PySem.F.excBase_ValueError PySem.F.store_ValueError fm_BadSchema init_BadSchema ty_BadSchema lk_BadSchema hc_BadSchema code_BadSchema hv_BadSchema hf_BadSchema cell_BadSchema ic_BadSchema sub_BadSchema z_super z_tp z_top sup_BadSchema base_BadSchema exc_BadSchema sa_BadSchema ov_BadSchema hd_BadSchema (by
    intro f hf
    simp only [List.mem_cons, List.not_mem_nil, or_false] at hf
    rcases hf with rfl <;> assumption) exC_BadSchema tyC_BadSchema kC_BadSchema
  have er_NoKind : ErC l.prog K "NoKind.__init__" ["kind"] C_NoKind := er_mk PySem.W.kxs_ValueError PySem.F.excBase_ValueError PySem.F.store_ValueError fm_NoKind init_NoKind ty_NoKind lk_NoKind hc_NoKind code_NoKind hv_NoKind hf_NoKind cell_NoKind ic_NoKind sub_NoKind z_super z_tp z_top sup_NoKind base_NoKind exc_NoKind sa_NoKind ov_NoKind hd_NoKind (by
    intro f hf
    simp only [List.mem_cons, List.not_mem_nil, or_false] at hf
    rcases hf with rfl <;> assumption) exC_NoKind tyC_NoKind kC_NoKind
  have er_BadGuard : ErC l.prog K "BadGuard.__init__" ["part"] C_BadGuard := er_mk PySem.W.kxs_ValueError PySem.F.excBase_ValueError PySem.F.store_ValueError fm_BadGuard init_BadGuard ty_BadGuard lk_BadGuard hc_BadGuard code_BadGuard hv_BadGuard hf_BadGuard cell_BadGuard ic_BadGuard sub_BadGuard z_super z_tp z_top sup_BadGuard base_BadGuard exc_BadGuard sa_BadGuard ov_BadGuard hd_BadGuard (by
    intro f hf
    simp only [List.mem_cons, List.not_mem_nil, or_false] at hf
    rcases hf with rfl <;> assumption) exC_BadGuard tyC_BadGuard kC_BadGuard
  have er_BadWalker : ErC l.prog K "BadWalker.__init__" ["part"] C_BadWalker := er_mk PySem.W.kxs_ValueError PySem.F.excBase_ValueError PySem.F.store_ValueError fm_BadWalker init_BadWalker ty_BadWalker lk_BadWalker hc_BadWalker code_BadWalker hv_BadWalker hf_BadWalker cell_BadWalker ic_BadWalker sub_BadWalker z_super z_tp z_top sup_BadWalker base_BadWalker exc_BadWalker sa_BadWalker ov_BadWalker hd_BadWalker (by
    intro f hf
    simp only [List.mem_cons, List.not_mem_nil, or_false] at hf
    rcases hf with rfl <;> assumption) exC_BadWalker tyC_BadWalker kC_BadWalker
  have Kd_Guard_init : KwdV K (.ref kD_Guard_init) [("act", .str "ring"), ("by", .str "same"), ("keep", .str "none"), ("keep_by", .str "same")] := .inr ⟨kD_Guard_init, rfl, fun q hq => by
    simp only [List.mem_cons, List.not_mem_nil, or_false] at hq
    rcases hq with rfl | rfl | rfl | rfl
    · exact ⟨_, kw0_Guard_init, kr0_Guard_init⟩
    · exact ⟨_, kw1_Guard_init, kr1_Guard_init⟩
    · exact ⟨_, kw2_Guard_init, kr2_Guard_init⟩
    · exact ⟨_, kw3_Guard_init, kr3_Guard_init⟩⟩
  have Kd_Walker_init : KwdV K (.ref kD_Walker_init) [("guards", .ref dW_guards), ("out", .ref dW_out), ("anew", .ref dW_anew), ("limit", .non), ("frees", .bl true)] := .inr ⟨kD_Walker_init, rfl, fun q hq => by
    simp only [List.mem_cons, List.not_mem_nil, or_false] at hq
    rcases hq with rfl | rfl | rfl | rfl | rfl
    · exact ⟨_, kw0_Walker_init, kr0_Walker_init⟩
    · exact ⟨_, kw1_Walker_init, kr1_Walker_init⟩
    · exact ⟨_, kw2_Walker_init, kr2_Walker_init⟩
    · exact ⟨_, kw3_Walker_init, kr3_Walker_init⟩
    · exact ⟨_, kw4_Walker_init, kr4_Walker_init⟩⟩
  have F_is_letters := fun_mk (st := s_is_letters) l_is_letters c_is_letters k_is_letters
  have F_is_kind_name := fun_mk (st := s_is_kind_name) l_is_kind_name c_is_kind_name k_is_kind_name
  have F_is_field_name := fun_mk (st := s_is_field_name) l_is_field_name c_is_field_name k_is_field_name
  have F_is_mode := fun_mk (st := s_is_mode) l_is_mode c_is_mode k_is_mode
  have F_is_field := fun_mk (st := s_is_field) l_is_field c_is_field k_is_field
  have F_is_bases := fun_mk (st := s_is_bases) l_is_bases c_is_bases k_is_bases
  have F_Kind_init := fun_mk (st := s_Kind_init) l_Kind_init c_Kind_init k_Kind_init
  have F_make_kind := fun_mk (st := s_make_kind) l_make_kind c_make_kind k_make_kind
  have F_Schema_init := fun_mk (st := s_Schema_init) l_Schema_init c_Schema_init k_Schema_init
  have F_Schema_getitem := fun_mk (st := s_Schema_getitem) l_Schema_getitem c_Schema_getitem k_Schema_getitem
  have F_Schema_under := fun_mk (st := s_Schema_under) l_Schema_under c_Schema_under k_Schema_under
  have F_is_choice := fun_mk (st := s_is_choice) l_is_choice c_is_choice k_is_choice
  have F_Schema_contains := fun_mk (st := s_Schema_contains) l_Schema_contains c_Schema_contains k_Schema_contains
  have F_is_start := fun_mk (st := s_is_start) l_is_start c_is_start k_is_start
  have F_is_pairs := fun_mk (st := s_is_pairs) l_is_pairs c_is_pairs k_is_pairs
  have F_is_guards := fun_mk (st := s_is_guards) l_is_guards c_is_guards k_is_guards
  have F_is_owned := fun_mk (st := s_is_owned) l_is_owned c_is_owned k_is_owned
  have F_is_fields := fun_mk (st := s_is_fields) l_is_fields c_is_fields k_is_fields
  have F_is_limit := fun_mk (st := s_is_limit) l_is_limit c_is_limit k_is_limit
  have F_wrong_part := fun_mk (st := s_wrong_part) l_wrong_part c_wrong_part k_wrong_part
  have F_guards_in_order := fun_mk (st := s_guards_in_order) l_guards_in_order c_guards_in_order k_guards_in_order
  have F_fields_in_order := fun_mk (st := s_fields_in_order) l_fields_in_order c_fields_in_order k_fields_in_order
  have F_Schema_eq := fun_mk (st := s_Schema_eq) l_Schema_eq c_Schema_eq k_Schema_eq
  have F_Guard_eq := fun_mk (st := s_Guard_eq) l_Guard_eq c_Guard_eq k_Guard_eq
  have F_Guard_str := fun_mk (st := s_Guard_str) l_Guard_str c_Guard_str k_Guard_str
  have F_Walker_parts := fun_mk (st := s_Walker_parts) l_Walker_parts c_Walker_parts k_Walker_parts
  have F_Walker_eq := fun_mk (st := s_Walker_eq) l_Walker_eq c_Walker_eq k_Walker_eq
  have F_walker_text := fun_mk (st := s_walker_text) l_walker_text c_walker_text k_walker_text
  have F_Walker_str := fun_mk (st := s_Walker_str) l_Walker_str c_Walker_str k_Walker_str
  have F_l_pen := fun_mk (st := s_l_pen) l_l_pen c_l_pen k_l_pen
  have F_l_take := fun_mk (st := s_l_take) l_l_take c_l_take k_l_take
  have F_l_bit := fun_mk (st := s_l_bit) l_l_bit c_l_bit k_l_bit
  have F_l_letters := fun_mk (st := s_l_letters) l_l_letters c_l_letters k_l_letters
  have F_l_names := fun_mk (st := s_l_names) l_l_names c_l_names k_l_names
  have F_l_kind_names := fun_mk (st := s_l_kind_names) l_l_kind_names c_l_kind_names k_l_kind_names
  have F_l_field_names := fun_mk (st := s_l_field_names) l_l_field_names c_l_field_names k_l_field_names
  have F_l_line := fun_mk (st := s_l_line) l_l_line c_l_line k_l_line
  have F_l_fields := fun_mk (st := s_l_fields) l_l_fields c_l_fields k_l_fields
  have F_l_concrete := fun_mk (st := s_l_concrete) l_l_concrete c_l_concrete k_l_concrete
  have F_l_under := fun_mk (st := s_l_under) l_l_under c_l_under k_l_under
  have F_l_merged := fun_mk (st := s_l_merged) l_l_merged c_l_merged k_l_merged
  have F_l_own_fields := fun_mk (st := s_l_own_fields) l_l_own_fields c_l_own_fields k_l_own_fields
  have F_l_rows := fun_mk (st := s_l_rows) l_l_rows c_l_rows k_l_rows
  have F_l_pick := fun_mk (st := s_l_pick) l_l_pick c_l_pick k_l_pick
  have F_l_guard_drawn := fun_mk (st := s_l_guard_drawn) l_l_guard_drawn c_l_guard_drawn k_l_guard_drawn
  have F_l_guard_made := fun_mk (st := s_l_guard_made) l_l_guard_made c_l_guard_made k_l_guard_made
  have F_l_walker := fun_mk (st := s_l_walker) l_l_walker c_l_walker k_l_walker
  have F_l_walker_made := fun_mk (st := s_l_walker_made) l_l_walker_made c_l_walker_made k_l_walker_made
  have F_l_key := fun_mk (st := s_l_key) l_l_key c_l_key k_l_key
  have F_l_one_part := fun_mk (st := s_l_one_part) l_l_one_part c_l_one_part k_l_one_part
  have F_l_turned := fun_mk (st := s_l_turned) l_l_turned c_l_turned k_l_turned
  have F_law := fun_mk (st := s_law) l_law c_law k_law
  have T : Txt l.prog K mg { MODES := A_MODES, RESERVED := A_RESERVED, BadSchema := C_BadSchema, NoKind := C_NoKind, BadGuard := C_BadGuard, BadWalker := C_BadWalker, Kind := C_Kind, Schema := C_Schema, MARKS := A_MARKS, ACTS := A_ACTS, BY := A_BY, KEEPS := A_KEEPS, Guard := C_Guard, Guard_init := f_Guard_init, fd_Guard_init := PySem.W.fnOf "__init__" "Guard.__init__" (defArgs s_Guard_init) (defBody s_Guard_init) (defScope s_Guard_init) (.ref dT_Guard_init) (.ref kD_Guard_init) dc_Guard_init pm_Guard_init an_Guard_init cd_Guard_init ct_Guard_init, dW_guards := dW_guards, dW_out := dW_out, dW_anew := dW_anew, Walker := C_Walker, Walker_init := f_Walker_init, fd_Walker_init := PySem.W.fnOf "__init__" "Walker.__init__" (defArgs s_Walker_init) (defBody s_Walker_init) (defScope s_Walker_init) .none (.ref kD_Walker_init) dc_Walker_init pm_Walker_init an_Walker_init cd_Walker_init ct_Walker_init, is_letters := f_is_letters, fd_is_letters := PySem.W.fnOf "is_letters" "is_letters" (defArgs s_is_letters) (defBody s_is_letters) (defScope s_is_letters) .none kV_is_letters dc_is_letters pm_is_letters an_is_letters cd_is_letters ct_is_letters, is_kind_name := f_is_kind_name, fd_is_kind_name := PySem.W.fnOf "is_kind_name" "is_kind_name" (defArgs s_is_kind_name) (defBody s_is_kind_name) (defScope s_is_kind_name) .none kV_is_kind_name dc_is_kind_name pm_is_kind_name an_is_kind_name cd_is_kind_name ct_is_kind_name, is_field_name := f_is_field_name, fd_is_field_name := PySem.W.fnOf "is_field_name" "is_field_name" (defArgs s_is_field_name) (defBody s_is_field_name) (defScope s_is_field_name) .none kV_is_field_name dc_is_field_name pm_is_field_name an_is_field_name cd_is_field_name ct_is_field_name, is_mode := f_is_mode, fd_is_mode := PySem.W.fnOf "is_mode" "is_mode" (defArgs s_is_mode) (defBody s_is_mode) (defScope s_is_mode) .none kV_is_mode dc_is_mode pm_is_mode an_is_mode cd_is_mode ct_is_mode, is_field := f_is_field, fd_is_field := PySem.W.fnOf "is_field" "is_field" (defArgs s_is_field) (defBody s_is_field) (defScope s_is_field) .none kV_is_field dc_is_field pm_is_field an_is_field cd_is_field ct_is_field, is_bases := f_is_bases, fd_is_bases := PySem.W.fnOf "is_bases" "is_bases" (defArgs s_is_bases) (defBody s_is_bases) (defScope s_is_bases) .none kV_is_bases dc_is_bases pm_is_bases an_is_bases cd_is_bases ct_is_bases, Kind_init := f_Kind_init, fd_Kind_init := PySem.W.fnOf "__init__" "Kind.__init__" (defArgs s_Kind_init) (defBody s_Kind_init) (defScope s_Kind_init) .none kV_Kind_init dc_Kind_init pm_Kind_init an_Kind_init cd_Kind_init ct_Kind_init, make_kind := f_make_kind, fd_make_kind := PySem.W.fnOf "make_kind" "make_kind" (defArgs s_make_kind) (defBody s_make_kind) (defScope s_make_kind) .none kV_make_kind dc_make_kind pm_make_kind an_make_kind cd_make_kind ct_make_kind, Schema_init := f_Schema_init, fd_Schema_init := PySem.W.fnOf "__init__" "Schema.__init__" (defArgs s_Schema_init) (defBody s_Schema_init) (defScope s_Schema_init) .none kV_Schema_init dc_Schema_init pm_Schema_init an_Schema_init cd_Schema_init ct_Schema_init, Schema_getitem := f_Schema_getitem, fd_Schema_getitem := PySem.W.fnOf "__getitem__" "Schema.__getitem__" (defArgs s_Schema_getitem) (defBody s_Schema_getitem) (defScope s_Schema_getitem) .none kV_Schema_getitem dc_Schema_getitem pm_Schema_getitem an_Schema_getitem cd_Schema_getitem ct_Schema_getitem, Schema_under := f_Schema_under, fd_Schema_under := PySem.W.fnOf "under" "Schema.under" (defArgs s_Schema_under) (defBody s_Schema_under) (defScope s_Schema_under) .none kV_Schema_under dc_Schema_under pm_Schema_under an_Schema_under cd_Schema_under ct_Schema_under, is_choice := f_is_choice, fd_is_choice := PySem.W.fnOf "is_choice" "is_choice" (defArgs s_is_choice) (defBody s_is_choice) (defScope s_is_choice) .none kV_is_choice dc_is_choice pm_is_choice an_is_choice cd_is_choice ct_is_choice, Schema_contains := f_Schema_contains, fd_Schema_contains := PySem.W.fnOf "__contains__" "Schema.__contains__" (defArgs s_Schema_contains) (defBody s_Schema_contains) (defScope s_Schema_contains) .none kV_Schema_contains dc_Schema_contains pm_Schema_contains an_Schema_contains cd_Schema_contains ct_Schema_contains, is_start := f_is_start, fd_is_start := PySem.W.fnOf "is_start" "is_start" (defArgs s_is_start) (defBody s_is_start) (defScope s_is_start) .none kV_is_start dc_is_start pm_is_start an_is_start cd_is_start ct_is_start, is_pairs := f_is_pairs, fd_is_pairs := PySem.W.fnOf "is_pairs" "is_pairs" (defArgs s_is_pairs) (defBody s_is_pairs) (defScope s_is_pairs) .none kV_is_pairs dc_is_pairs pm_is_pairs an_is_pairs cd_is_pairs ct_is_pairs, is_guards := f_is_guards, fd_is_guards := PySem.W.fnOf "is_guards" "is_guards" (defArgs s_is_guards) (defBody s_is_guards) (defScope s_is_guards) .none kV_is_guards dc_is_guards pm_is_guards an_is_guards cd_is_guards ct_is_guards, is_owned := f_is_owned, fd_is_owned := PySem.W.fnOf "is_owned" "is_owned" (defArgs s_is_owned) (defBody s_is_owned) (defScope s_is_owned) .none kV_is_owned dc_is_owned pm_is_owned an_is_owned cd_is_owned ct_is_owned, is_fields := f_is_fields, fd_is_fields := PySem.W.fnOf "is_fields" "is_fields" (defArgs s_is_fields) (defBody s_is_fields) (defScope s_is_fields) .none kV_is_fields dc_is_fields pm_is_fields an_is_fields cd_is_fields ct_is_fields, is_limit := f_is_limit, fd_is_limit := PySem.W.fnOf "is_limit" "is_limit" (defArgs s_is_limit) (defBody s_is_limit) (defScope s_is_limit) .none kV_is_limit dc_is_limit pm_is_limit an_is_limit cd_is_limit ct_is_limit, wrong_part := f_wrong_part, fd_wrong_part := PySem.W.fnOf "wrong_part" "wrong_part" (defArgs s_wrong_part) (defBody s_wrong_part) (defScope s_wrong_part) .none kV_wrong_part dc_wrong_part pm_wrong_part an_wrong_part cd_wrong_part ct_wrong_part, guards_in_order := f_guards_in_order, fd_guards_in_order := PySem.W.fnOf "guards_in_order" "guards_in_order" (defArgs s_guards_in_order) (defBody s_guards_in_order) (defScope s_guards_in_order) .none kV_guards_in_order dc_guards_in_order pm_guards_in_order an_guards_in_order cd_guards_in_order ct_guards_in_order, fields_in_order := f_fields_in_order, fd_fields_in_order := PySem.W.fnOf "fields_in_order" "fields_in_order" (defArgs s_fields_in_order) (defBody s_fields_in_order) (defScope s_fields_in_order) .none kV_fields_in_order dc_fields_in_order pm_fields_in_order an_fields_in_order cd_fields_in_order ct_fields_in_order, Schema_eq := f_Schema_eq, fd_Schema_eq := PySem.W.fnOf "__eq__" "Schema.__eq__" (defArgs s_Schema_eq) (defBody s_Schema_eq) (defScope s_Schema_eq) .none kV_Schema_eq dc_Schema_eq pm_Schema_eq an_Schema_eq cd_Schema_eq ct_Schema_eq, Guard_eq := f_Guard_eq, fd_Guard_eq := PySem.W.fnOf "__eq__" "Guard.__eq__" (defArgs s_Guard_eq) (defBody s_Guard_eq) (defScope s_Guard_eq) .none kV_Guard_eq dc_Guard_eq pm_Guard_eq an_Guard_eq cd_Guard_eq ct_Guard_eq, Guard_str := f_Guard_str, fd_Guard_str := PySem.W.fnOf "__str__" "Guard.__str__" (defArgs s_Guard_str) (defBody s_Guard_str) (defScope s_Guard_str) .none kV_Guard_str dc_Guard_str pm_Guard_str an_Guard_str cd_Guard_str ct_Guard_str, Walker_parts := f_Walker_parts, fd_Walker_parts := PySem.W.fnOf "parts" "Walker.parts" (defArgs s_Walker_parts) (defBody s_Walker_parts) (defScope s_Walker_parts) .none kV_Walker_parts dc_Walker_parts pm_Walker_parts an_Walker_parts cd_Walker_parts ct_Walker_parts, Walker_eq := f_Walker_eq, fd_Walker_eq := PySem.W.fnOf "__eq__" "Walker.__eq__" (defArgs s_Walker_eq) (defBody s_Walker_eq) (defScope s_Walker_eq) .none kV_Walker_eq dc_Walker_eq pm_Walker_eq an_Walker_eq cd_Walker_eq ct_Walker_eq, walker_text := f_walker_text, fd_walker_text := PySem.W.fnOf "walker_text" "walker_text" (defArgs s_walker_text) (defBody s_walker_text) (defScope s_walker_text) .none kV_walker_text dc_walker_text pm_walker_text an_walker_text cd_walker_text ct_walker_text, Walker_str := f_Walker_str, fd_Walker_str := PySem.W.fnOf "__str__" "Walker.__str__" (defArgs s_Walker_str) (defBody s_Walker_str) (defScope s_Walker_str) .none kV_Walker_str dc_Walker_str pm_Walker_str an_Walker_str cd_Walker_str ct_Walker_str, l_pen := f_l_pen, fd_l_pen := PySem.W.fnOf "_law_pen" "_law_pen" (defArgs s_l_pen) (defBody s_l_pen) (defScope s_l_pen) .none kV_l_pen dc_l_pen pm_l_pen an_l_pen cd_l_pen ct_l_pen, l_take := f_l_take, fd_l_take := PySem.W.fnOf "_law_take" "_law_take" (defArgs s_l_take) (defBody s_l_take) (defScope s_l_take) .none kV_l_take dc_l_take pm_l_take an_l_take cd_l_take ct_l_take, l_bit := f_l_bit, fd_l_bit := PySem.W.fnOf "_law_bit" "_law_bit" (defArgs s_l_bit) (defBody s_l_bit) (defScope s_l_bit) .none kV_l_bit dc_l_bit pm_l_bit an_l_bit cd_l_bit ct_l_bit, l_letters := f_l_letters, fd_l_letters := PySem.W.fnOf "_law_letters" "_law_letters" (defArgs s_l_letters) (defBody s_l_letters) (defScope s_l_letters) .none kV_l_letters dc_l_letters pm_l_letters an_l_letters cd_l_letters ct_l_letters, l_names := f_l_names, fd_l_names := PySem.W.fnOf "_law_names" "_law_names" (defArgs s_l_names) (defBody s_l_names) (defScope s_l_names) .none kV_l_names dc_l_names pm_l_names an_l_names cd_l_names ct_l_names, l_kind_names := f_l_kind_names, fd_l_kind_names := PySem.W.fnOf "_law_kind_names" "_law_kind_names" (defArgs s_l_kind_names) (defBody s_l_kind_names) (defScope s_l_kind_names) .none kV_l_kind_names dc_l_kind_names pm_l_kind_names an_l_kind_names cd_l_kind_names ct_l_kind_names, l_field_names := f_l_field_names, fd_l_field_names := PySem.W.fnOf "_law_field_names" "_law_field_names" (defArgs s_l_field_names) (defBody s_l_field_names) (defScope s_l_field_names) .none kV_l_field_names dc_l_field_names pm_l_field_names an_l_field_names cd_l_field_names ct_l_field_names, l_line := f_l_line, fd_l_line := PySem.W.fnOf "_law_line" "_law_line" (defArgs s_l_line) (defBody s_l_line) (defScope s_l_line) .none kV_l_line dc_l_line pm_l_line an_l_line cd_l_line ct_l_line, l_fields := f_l_fields, fd_l_fields := PySem.W.fnOf "_law_fields" "_law_fields" (defArgs s_l_fields) (defBody s_l_fields) (defScope s_l_fields) .none kV_l_fields dc_l_fields pm_l_fields an_l_fields cd_l_fields ct_l_fields, l_concrete := f_l_concrete, fd_l_concrete := PySem.W.fnOf "_law_concrete" "_law_concrete" (defArgs s_l_concrete) (defBody s_l_concrete) (defScope s_l_concrete) .none kV_l_concrete dc_l_concrete pm_l_concrete an_l_concrete cd_l_concrete ct_l_concrete, l_under := f_l_under, fd_l_under := PySem.W.fnOf "_law_under" "_law_under" (defArgs s_l_under) (defBody s_l_under) (defScope s_l_under) .none kV_l_under dc_l_under pm_l_under an_l_under cd_l_under ct_l_under, l_merged := f_l_merged, fd_l_merged := PySem.W.fnOf "_law_merged" "_law_merged" (defArgs s_l_merged) (defBody s_l_merged) (defScope s_l_merged) .none kV_l_merged dc_l_merged pm_l_merged an_l_merged cd_l_merged ct_l_merged, l_own_fields := f_l_own_fields, fd_l_own_fields := PySem.W.fnOf "_law_own_fields" "_law_own_fields" (defArgs s_l_own_fields) (defBody s_l_own_fields) (defScope s_l_own_fields) .none kV_l_own_fields dc_l_own_fields pm_l_own_fields an_l_own_fields cd_l_own_fields ct_l_own_fields, l_rows := f_l_rows, fd_l_rows := PySem.W.fnOf "_law_rows" "_law_rows" (defArgs s_l_rows) (defBody s_l_rows) (defScope s_l_rows) .none kV_l_rows dc_l_rows pm_l_rows an_l_rows cd_l_rows ct_l_rows, l_pick := f_l_pick, fd_l_pick := PySem.W.fnOf "_law_pick" "_law_pick" (defArgs s_l_pick) (defBody s_l_pick) (defScope s_l_pick) .none kV_l_pick dc_l_pick pm_l_pick an_l_pick cd_l_pick ct_l_pick, l_guard_drawn := f_l_guard_drawn, fd_l_guard_drawn := PySem.W.fnOf "_law_guard_drawn" "_law_guard_drawn" (defArgs s_l_guard_drawn) (defBody s_l_guard_drawn) (defScope s_l_guard_drawn) .none kV_l_guard_drawn dc_l_guard_drawn pm_l_guard_drawn an_l_guard_drawn cd_l_guard_drawn ct_l_guard_drawn, l_guard_made := f_l_guard_made, fd_l_guard_made := PySem.W.fnOf "_law_guard_made" "_law_guard_made" (defArgs s_l_guard_made) (defBody s_l_guard_made) (defScope s_l_guard_made) .none kV_l_guard_made dc_l_guard_made pm_l_guard_made an_l_guard_made cd_l_guard_made ct_l_guard_made, l_walker := f_l_walker, fd_l_walker := PySem.W.fnOf "_law_walker" "_law_walker" (defArgs s_l_walker) (defBody s_l_walker) (defScope s_l_walker) .none kV_l_walker dc_l_walker pm_l_walker an_l_walker cd_l_walker ct_l_walker, l_walker_made := f_l_walker_made, fd_l_walker_made := PySem.W.fnOf "_law_walker_made" "_law_walker_made" (defArgs s_l_walker_made) (defBody s_l_walker_made) (defScope s_l_walker_made) .none kV_l_walker_made dc_l_walker_made pm_l_walker_made an_l_walker_made cd_l_walker_made ct_l_walker_made, l_key := f_l_key, fd_l_key := PySem.W.fnOf "_law_key" "_law_key" (defArgs s_l_key) (defBody s_l_key) (defScope s_l_key) .none kV_l_key dc_l_key pm_l_key an_l_key cd_l_key ct_l_key, l_one_part := f_l_one_part, fd_l_one_part := PySem.W.fnOf "_law_one_part" "_law_one_part" (defArgs s_l_one_part) (defBody s_l_one_part) (defScope s_l_one_part) .none kV_l_one_part dc_l_one_part pm_l_one_part an_l_one_part cd_l_one_part ct_l_one_part, l_turned := f_l_turned, fd_l_turned := PySem.W.fnOf "_law_turned" "_law_turned" (defArgs s_l_turned) (defBody s_l_turned) (defScope s_l_turned) .none kV_l_turned dc_l_turned pm_l_turned an_l_turned cd_l_turned ct_l_turned, law := fa, fd_law := PySem.W.fnOf "law" "law" (defArgs s_law) (defBody s_law) (defScope s_law) .none kV_law dc_law pm_law an_law cd_law ct_law } := {
    n_len := PySem.W.mg_none_of X G z_len,
    n_int := PySem.W.mg_none_of X G z_int,
    n_list := PySem.W.mg_none_of X G z_list,
    n_range := PySem.W.mg_none_of X G z_range,
    n_isinstance := PySem.W.mg_none_of X G z_isinstance,
    n_str := PySem.W.mg_none_of X G z_str,
    n_tuple := PySem.W.mg_none_of X G z_tuple,
    n_set := PySem.W.mg_none_of X G z_set,
    n_enumerate := PySem.W.mg_none_of X G z_enumerate,
    n_reversed := PySem.W.mg_none_of X G z_reversed,
    n_all := PySem.W.mg_none_of X G z_all,
    n_repr := PySem.W.mg_none_of X G z_repr,
    n_bool := PySem.W.mg_none_of X G z_bool,
    c_MODES := sqt_mk lt_MODES ls_MODES lv_MODES,
    g_MODES := PySem.W.mg_of X G aG_MODES,
    c_RESERVED := sqt_mk lt_RESERVED ls_RESERVED lv_RESERVED,
    g_RESERVED := PySem.W.mg_of X G aG_RESERVED,
    u_CAPITALS := ⟨u_CAPITALS, PySem.W.mg_of X G aG_CAPITALS, rG_CAPITALS⟩,
    u_LETTERS := ⟨u_LETTERS, PySem.W.mg_of X G aG_LETTERS, rG_LETTERS⟩,
    u_MOST_BASES := ⟨u_MOST_BASES, PySem.W.mg_of X G aG_MOST_BASES, rG_MOST_BASES⟩,
    g_BadSchema := PySem.W.mg_of X G aC_BadSchema,
    er_BadSchema := er_BadSchema,
    te_BadSchema := exm_self exC_BadSchema ic_BadSchema tyC_BadSchema su_BadSchema,
    xf_BadSchema := ⟨ga_BadSchema, gg_BadSchema, exC_BadSchema, hd_BadSchema⟩,
    no_BadSchema_at := no_BadSchema_at,
    g_NoKind := PySem.W.mg_of X G aC_NoKind,
    er_NoKind := er_NoKind,
    te_NoKind := exm_self exC_NoKind ic_NoKind tyC_NoKind su_NoKind,
    xf_NoKind := ⟨ga_NoKind, gg_NoKind, exC_NoKind, hd_NoKind⟩,
    no_NoKind_kind := no_NoKind_kind,
    g_BadGuard := PySem.W.mg_of X G aC_BadGuard,
    er_BadGuard := er_BadGuard,
    te_BadGuard := exm_self exC_BadGuard ic_BadGuard tyC_BadGuard su_BadGuard,
    xf_BadGuard := ⟨ga_BadGuard, gg_BadGuard, exC_BadGuard, hd_BadGuard⟩,
    no_BadGuard_part := no_BadGuard_part,
    g_BadWalker := PySem.W.mg_of X G aC_BadWalker,
    er_BadWalker := er_BadWalker,
    te_BadWalker := exm_self exC_BadWalker ic_BadWalker tyC_BadWalker su_BadWalker,
    xf_BadWalker := ⟨ga_BadWalker, gg_BadWalker, exC_BadWalker, hd_BadWalker⟩,
    no_BadWalker_part := no_BadWalker_part,
    g_Kind := PySem.W.mg_of X G aC_Kind,
    ow_Kind := own_mk pg_Kind hd_Kind po_Kind sa_Kind ha_Kind hn_Kind ht_Kind hm_Kind k1_Kind b1_Kind b2_Kind b3_Kind b4_Kind b5_Kind b6_Kind b7_Kind,
    no_Kind_name := no_Kind_name,
    no_Kind_bases := no_Kind_bases,
    no_Kind_is_abstract := no_Kind_is_abstract,
    no_Kind_own := no_Kind_own,
    no_Kind_line := no_Kind_line,
    no_Kind_fields := no_Kind_fields,
    g_Schema := PySem.W.mg_of X G aC_Schema,
    ow_Schema := own_mk pg_Schema hd_Schema po_Schema sa_Schema ha_Schema hn_Schema ht_Schema hm_Schema k1_Schema b1_Schema b2_Schema b3_Schema b4_Schema b5_Schema b6_Schema b7_Schema,
    no_Schema_rows := no_Schema_rows,
    no_Schema_names := no_Schema_names,
    no_Schema_known := no_Schema_known,
    nf_Schema := nf_mk nf1_Schema nf2_Schema nf3_Schema nf4_Schema nf5_Schema nf6_Schema nf7_Schema,
    nfo_Schema := nfo_Schema,
    cr_Schema_MOST := ⟨.type "type", cu_Schema_MOST, ⟨cr1_Schema, cr2_Schema⟩, ⟨cr3_Schema_MOST, cr4_Schema_MOST⟩⟩,
    cr_Schema_FIELDS := ⟨.type "type", cu_Schema_FIELDS, ⟨cr1_Schema, cr2_Schema⟩, ⟨cr3_Schema_FIELDS, cr4_Schema_FIELDS⟩⟩,
    c_MARKS := sqt_mk lt_MARKS ls_MARKS lv_MARKS,
    g_MARKS := PySem.W.mg_of X G aG_MARKS,
    c_ACTS := sqt_mk lt_ACTS ls_ACTS lv_ACTS,
    g_ACTS := PySem.W.mg_of X G aG_ACTS,
    c_BY := sqt_mk lt_BY ls_BY lv_BY,
    g_BY := PySem.W.mg_of X G aG_BY,
    c_KEEPS := sqt_mk lt_KEEPS ls_KEEPS lv_KEEPS,
    g_KEEPS := PySem.W.mg_of X G aG_KEEPS,
    g_Guard := PySem.W.mg_of X G aC_Guard,
    ow_Guard := own_mk pg_Guard hd_Guard po_Guard sa_Guard ha_Guard hn_Guard ht_Guard hm_Guard k1_Guard b1_Guard b2_Guard b3_Guard b4_Guard b5_Guard b6_Guard b7_Guard,
    no_Guard_mark := no_Guard_mark,
    no_Guard_act := no_Guard_act,
    no_Guard_by := no_Guard_by,
    no_Guard_keep := no_Guard_keep,
    no_Guard_keep_by := no_Guard_keep_by,
    nf_Guard := nf_mk nf1_Guard nf2_Guard nf3_Guard nf4_Guard nf5_Guard nf6_Guard nf7_Guard,
    nfo_Guard := nfo_Guard,
    F_Guard_init := ⟨⟨_, _, _, _, _, _, _, _, _, _, rfl, l_Guard_init, c_Guard_init, (dflt_mk dl_Guard_init dv_Guard_init (by simp)), Kd_Guard_init⟩, k_Guard_init⟩,
    n_dict := PySem.W.mg_none_of X G z_dict,
    n_min := PySem.W.mg_none_of X G z_min,
    u_MOST_LIMIT := ⟨u_MOST_LIMIT, PySem.W.mg_of X G aG_MOST_LIMIT, rG_MOST_LIMIT⟩,
    g_Walker := PySem.W.mg_of X G aC_Walker,
    ow_Walker := own_mk pg_Walker hd_Walker po_Walker sa_Walker ha_Walker hn_Walker ht_Walker hm_Walker k1_Walker b1_Walker b2_Walker b3_Walker b4_Walker b5_Walker b6_Walker b7_Walker,
    no_Walker_schema := no_Walker_schema,
    no_Walker_start := no_Walker_start,
    no_Walker_guards := no_Walker_guards,
    no_Walker_out := no_Walker_out,
    no_Walker_anew := no_Walker_anew,
    no_Walker_limit := no_Walker_limit,
    no_Walker_frees := no_Walker_frees,
    nf_Walker := nf_mk nf1_Walker nf2_Walker nf3_Walker nf4_Walker nf5_Walker nf6_Walker nf7_Walker,
    nfo_Walker := nfo_Walker,
    F_Walker_init := ⟨⟨_, _, _, _, _, _, _, _, _, _, rfl, l_Walker_init, c_Walker_init, (.inl ⟨rfl, rfl⟩), Kd_Walker_init⟩, k_Walker_init⟩,
    nc_Walker := ⟨ne_Walker, hm_Walker⟩,
    ks_Walker := ks0_Walker,
    nfs_Walker := nfs_Walker,
    g_is_letters := PySem.W.mg_of X G a_is_letters,
    F_is_letters := F_is_letters,
    b_is_letters := F_is_letters.binds (ps := ["text"]) fun _ _ _ _ _ _ us hl => match us, hl with | [_], _ => rfl,
    g_is_kind_name := PySem.W.mg_of X G a_is_kind_name,
    F_is_kind_name := F_is_kind_name,
    b_is_kind_name := F_is_kind_name.binds (ps := ["thing"]) fun _ _ _ _ _ _ us hl => match us, hl with | [_], _ => rfl,
    g_is_field_name := PySem.W.mg_of X G a_is_field_name,
    F_is_field_name := F_is_field_name,
    b_is_field_name := F_is_field_name.binds (ps := ["thing"]) fun _ _ _ _ _ _ us hl => match us, hl with | [_], _ => rfl,
    g_is_mode := PySem.W.mg_of X G a_is_mode,
    F_is_mode := F_is_mode,
    b_is_mode := F_is_mode.binds (ps := ["thing"]) fun _ _ _ _ _ _ us hl => match us, hl with | [_], _ => rfl,
    g_is_field := PySem.W.mg_of X G a_is_field,
    F_is_field := F_is_field,
    b_is_field := F_is_field.binds (ps := ["thing", "targets"]) fun _ _ _ _ _ _ us hl => match us, hl with | [_, _], _ => rfl,
    g_is_bases := PySem.W.mg_of X G a_is_bases,
    F_is_bases := F_is_bases,
    b_is_bases := F_is_bases.binds (ps := ["thing", "names"]) fun _ _ _ _ _ _ us hl => match us, hl with | [_, _], _ => rfl,
    F_Kind_init := F_Kind_init,
    b_Kind_init := F_Kind_init.binds (ps := ["self", "row", "known"]) fun _ _ _ _ _ _ us hl => match us, hl with | [_, _, _], _ => rfl,
    me_Kind_init := ⟨a_Kind_init, i_Kind_init, k_Kind_init⟩,
    g_make_kind := PySem.W.mg_of X G a_make_kind,
    F_make_kind := F_make_kind,
    b_make_kind := F_make_kind.binds (ps := ["row", "known", "targets"]) fun _ _ _ _ _ _ us hl => match us, hl with | [_, _, _], _ => rfl,
    F_Schema_init := F_Schema_init,
    b_Schema_init := F_Schema_init.binds (ps := ["self", "rows"]) fun _ _ _ _ _ _ us hl => match us, hl with | [_, _], _ => rfl,
    me_Schema_init := ⟨a_Schema_init, i_Schema_init, k_Schema_init⟩,
    F_Schema_getitem := F_Schema_getitem,
    b_Schema_getitem := F_Schema_getitem.binds (ps := ["self", "name"]) fun _ _ _ _ _ _ us hl => match us, hl with | [_, _], _ => rfl,
    me_Schema_getitem := ⟨a_Schema_getitem, i_Schema_getitem, k_Schema_getitem⟩,
    F_Schema_under := F_Schema_under,
    b_Schema_under := F_Schema_under.binds (ps := ["self", "name"]) fun _ _ _ _ _ _ us hl => match us, hl with | [_, _], _ => rfl,
    me_Schema_under := ⟨a_Schema_under, i_Schema_under, k_Schema_under⟩,
    g_is_choice := PySem.W.mg_of X G a_is_choice,
    F_is_choice := F_is_choice,
    b_is_choice := F_is_choice.binds (ps := ["thing", "choices"]) fun _ _ _ _ _ _ us hl => match us, hl with | [_, _], _ => rfl,
    F_Schema_contains := F_Schema_contains,
    b_Schema_contains := F_Schema_contains.binds (ps := ["self", "thing"]) fun _ _ _ _ _ _ us hl => match us, hl with | [_, _], _ => rfl,
    me_Schema_contains := ⟨a_Schema_contains, i_Schema_contains, k_Schema_contains⟩,
    g_is_start := PySem.W.mg_of X G a_is_start,
    F_is_start := F_is_start,
    b_is_start := F_is_start.binds (ps := ["schema", "thing"]) fun _ _ _ _ _ _ us hl => match us, hl with | [_, _], _ => rfl,
    g_is_pairs := PySem.W.mg_of X G a_is_pairs,
    F_is_pairs := F_is_pairs,
    b_is_pairs := F_is_pairs.binds (ps := ["thing"]) fun _ _ _ _ _ _ us hl => match us, hl with | [_], _ => rfl,
    g_is_guards := PySem.W.mg_of X G a_is_guards,
    F_is_guards := F_is_guards,
    b_is_guards := F_is_guards.binds (ps := ["schema", "thing"]) fun _ _ _ _ _ _ us hl => match us, hl with | [_, _], _ => rfl,
    g_is_owned := PySem.W.mg_of X G a_is_owned,
    F_is_owned := F_is_owned,
    b_is_owned := F_is_owned.binds (ps := ["schema", "owner", "field"]) fun _ _ _ _ _ _ us hl => match us, hl with | [_, _, _], _ => rfl,
    g_is_fields := PySem.W.mg_of X G a_is_fields,
    F_is_fields := F_is_fields,
    b_is_fields := F_is_fields.binds (ps := ["schema", "thing", "others"]) fun _ _ _ _ _ _ us hl => match us, hl with | [_, _, _], _ => rfl,
    g_is_limit := PySem.W.mg_of X G a_is_limit,
    F_is_limit := F_is_limit,
    b_is_limit := F_is_limit.binds (ps := ["thing"]) fun _ _ _ _ _ _ us hl => match us, hl with | [_], _ => rfl,
    g_wrong_part := PySem.W.mg_of X G a_wrong_part,
    F_wrong_part := F_wrong_part,
    b_wrong_part := F_wrong_part.binds (ps := ["schema", "parts"]) fun _ _ _ _ _ _ us hl => match us, hl with | [_, _], _ => rfl,
    g_guards_in_order := PySem.W.mg_of X G a_guards_in_order,
    F_guards_in_order := F_guards_in_order,
    b_guards_in_order := F_guards_in_order.binds (ps := ["schema", "pairs"]) fun _ _ _ _ _ _ us hl => match us, hl with | [_, _], _ => rfl,
    g_fields_in_order := PySem.W.mg_of X G a_fields_in_order,
    F_fields_in_order := F_fields_in_order,
    b_fields_in_order := F_fields_in_order.binds (ps := ["schema", "pairs"]) fun _ _ _ _ _ _ us hl => match us, hl with | [_, _], _ => rfl,
    F_Schema_eq := F_Schema_eq,
    b_Schema_eq := F_Schema_eq.binds (ps := ["self", "other"]) fun _ _ _ _ _ _ us hl => match us, hl with | [_, _], _ => rfl,
    me_Schema_eq := ⟨a_Schema_eq, i_Schema_eq, k_Schema_eq⟩,
    F_Guard_eq := F_Guard_eq,
    b_Guard_eq := F_Guard_eq.binds (ps := ["self", "other"]) fun _ _ _ _ _ _ us hl => match us, hl with | [_, _], _ => rfl,
    me_Guard_eq := ⟨a_Guard_eq, i_Guard_eq, k_Guard_eq⟩,
    F_Guard_str := F_Guard_str,
    b_Guard_str := F_Guard_str.binds (ps := ["self"]) fun _ _ _ _ _ _ us hl => match us, hl with | [_], _ => rfl,
    me_Guard_str := ⟨a_Guard_str, i_Guard_str, k_Guard_str⟩,
    F_Walker_parts := F_Walker_parts,
    b_Walker_parts := F_Walker_parts.binds (ps := ["self"]) fun _ _ _ _ _ _ us hl => match us, hl with | [_], _ => rfl,
    me_Walker_parts := ⟨a_Walker_parts, i_Walker_parts, k_Walker_parts⟩,
    F_Walker_eq := F_Walker_eq,
    b_Walker_eq := F_Walker_eq.binds (ps := ["self", "other"]) fun _ _ _ _ _ _ us hl => match us, hl with | [_, _], _ => rfl,
    me_Walker_eq := ⟨a_Walker_eq, i_Walker_eq, k_Walker_eq⟩,
    g_walker_text := PySem.W.mg_of X G a_walker_text,
    F_walker_text := F_walker_text,
    b_walker_text := F_walker_text.binds (ps := ["parts"]) fun _ _ _ _ _ _ us hl => match us, hl with | [_], _ => rfl,
    F_Walker_str := F_Walker_str,
    b_Walker_str := F_Walker_str.binds (ps := ["self"]) fun _ _ _ _ _ _ us hl => match us, hl with | [_], _ => rfl,
    me_Walker_str := ⟨a_Walker_str, i_Walker_str, k_Walker_str⟩,
    g_l_pen := PySem.W.mg_of X G a_l_pen,
    F_l_pen := F_l_pen,
    b_l_pen := F_l_pen.binds (ps := ["_law_script"]) fun _ _ _ _ _ _ us hl => match us, hl with | [_], _ => rfl,
    g_l_take := PySem.W.mg_of X G a_l_take,
    F_l_take := F_l_take,
    b_l_take := F_l_take.binds (ps := ["_law_pen_here", "_law_bound"]) fun _ _ _ _ _ _ us hl => match us, hl with | [_, _], _ => rfl,
    g_l_bit := PySem.W.mg_of X G a_l_bit,
    F_l_bit := F_l_bit,
    b_l_bit := F_l_bit.binds (ps := ["_law_pen_here", "_law_bound"]) fun _ _ _ _ _ _ us hl => match us, hl with | [_, _], _ => rfl,
    g_l_letters := PySem.W.mg_of X G a_l_letters,
    F_l_letters := F_l_letters,
    b_l_letters := F_l_letters.binds (ps := ["_law_pen_here", "_law_place", "_law_index", "_law_offset", "_law_plain"]) fun _ _ _ _ _ _ us hl => match us, hl with | [_, _, _, _, _], _ => rfl,
    g_l_names := PySem.W.mg_of X G a_l_names,
    F_l_names := F_l_names,
    b_l_names := F_l_names.binds (ps := ["_law_pen_here", "_law_count"]) fun _ _ _ _ _ _ us hl => match us, hl with | [_, _], _ => rfl,
    g_l_kind_names := PySem.W.mg_of X G a_l_kind_names,
    F_l_kind_names := F_l_kind_names,
    b_l_kind_names := F_l_kind_names.binds (ps := ["_law_pen_here", "_law_count"]) fun _ _ _ _ _ _ us hl => match us, hl with | [_, _], _ => rfl,
    g_l_field_names := PySem.W.mg_of X G a_l_field_names,
    F_l_field_names := F_l_field_names,
    b_l_field_names := F_l_field_names.binds (ps := ["_law_pen_here", "_law_count"]) fun _ _ _ _ _ _ us hl => match us, hl with | [_, _], _ => rfl,
    g_l_line := PySem.W.mg_of X G a_l_line,
    F_l_line := F_l_line,
    b_l_line := F_l_line.binds (ps := ["_law_rows_here", "_law_name"]) fun _ _ _ _ _ _ us hl => match us, hl with | [_, _], _ => rfl,
    g_l_fields := PySem.W.mg_of X G a_l_fields,
    F_l_fields := F_l_fields,
    b_l_fields := F_l_fields.binds (ps := ["_law_rows_here", "_law_name"]) fun _ _ _ _ _ _ us hl => match us, hl with | [_, _], _ => rfl,
    g_l_concrete := PySem.W.mg_of X G a_l_concrete,
    F_l_concrete := F_l_concrete,
    b_l_concrete := F_l_concrete.binds (ps := ["_law_rows_here"]) fun _ _ _ _ _ _ us hl => match us, hl with | [_], _ => rfl,
    g_l_under := PySem.W.mg_of X G a_l_under,
    F_l_under := F_l_under,
    b_l_under := F_l_under.binds (ps := ["_law_rows_here", "_law_name"]) fun _ _ _ _ _ _ us hl => match us, hl with | [_, _], _ => rfl,
    g_l_merged := PySem.W.mg_of X G a_l_merged,
    F_l_merged := F_l_merged,
    b_l_merged := F_l_merged.binds (ps := ["_law_rows_here", "_law_held", "_law_base"]) fun _ _ _ _ _ _ us hl => match us, hl with | [_, _, _], _ => rfl,
    g_l_own_fields := PySem.W.mg_of X G a_l_own_fields,
    F_l_own_fields := F_l_own_fields,
    b_l_own_fields := F_l_own_fields.binds (ps := ["_law_pen_here", "_law_names_here", "_law_pool", "_law_held"]) fun _ _ _ _ _ _ us hl => match us, hl with | [_, _, _, _], _ => rfl,
    g_l_rows := PySem.W.mg_of X G a_l_rows,
    F_l_rows := F_l_rows,
    b_l_rows := F_l_rows.binds (ps := ["_law_pen_here", "_law_cap"]) fun _ _ _ _ _ _ us hl => match us, hl with | [_, _], _ => rfl,
    g_l_pick := PySem.W.mg_of X G a_l_pick,
    F_l_pick := F_l_pick,
    b_l_pick := F_l_pick.binds (ps := ["_law_pen_here", "_law_options"]) fun _ _ _ _ _ _ us hl => match us, hl with | [_, _], _ => rfl,
    g_l_guard_drawn := PySem.W.mg_of X G a_l_guard_drawn,
    F_l_guard_drawn := F_l_guard_drawn,
    b_l_guard_drawn := F_l_guard_drawn.binds (ps := ["_law_pen_here"]) fun _ _ _ _ _ _ us hl => match us, hl with | [_], _ => rfl,
    g_l_guard_made := PySem.W.mg_of X G a_l_guard_made,
    F_l_guard_made := F_l_guard_made,
    b_l_guard_made := F_l_guard_made.binds (ps := ["_law_plain"]) fun _ _ _ _ _ _ us hl => match us, hl with | [_], _ => rfl,
    g_l_walker := PySem.W.mg_of X G a_l_walker,
    F_l_walker := F_l_walker,
    b_l_walker := F_l_walker.binds (ps := ["_law_pen_here", "_law_rows_here"]) fun _ _ _ _ _ _ us hl => match us, hl with | [_, _], _ => rfl,
    g_l_walker_made := PySem.W.mg_of X G a_l_walker_made,
    F_l_walker_made := F_l_walker_made,
    b_l_walker_made := F_l_walker_made.binds (ps := ["_law_schema", "_law_walker_here"]) fun _ _ _ _ _ _ us hl => match us, hl with | [_, _], _ => rfl,
    g_l_key := PySem.W.mg_of X G a_l_key,
    F_l_key := F_l_key,
    b_l_key := F_l_key.binds (ps := ["_law_rows_here", "_law_walker_here"]) fun _ _ _ _ _ _ us hl => match us, hl with | [_, _], _ => rfl,
    g_l_one_part := PySem.W.mg_of X G a_l_one_part,
    F_l_one_part := F_l_one_part,
    b_l_one_part := F_l_one_part.binds (ps := ["_law_pen_here", "_law_rows_here", "_law_walker_here"]) fun _ _ _ _ _ _ us hl => match us, hl with | [_, _, _], _ => rfl,
    g_l_turned := PySem.W.mg_of X G a_l_turned,
    F_l_turned := F_l_turned,
    b_l_turned := F_l_turned.binds (ps := ["_law_pen_here", "_law_rows_here"]) fun _ _ _ _ _ _ us hl => match us, hl with | [_, _], _ => rfl,
    F_law := F_law,
    mk_Kind := ⟨mk_Kind, a_Kind_init, i_Kind_init, kc_Kind⟩,
    mk_Schema := ⟨mk_Schema, a_Schema_init, i_Schema_init, kc_Schema⟩,
    mk_Guard := ⟨mk_Guard, a_Guard_init, i_Guard_init, kc_Guard⟩,
    mk_Walker := ⟨mk_Walker, a_Walker_init, i_Walker_init, kc_Walker⟩ }
  exact ⟨PySem.W.fnOf "law" "law" (defArgs s_law) (defBody s_law) (defScope s_law) .none kV_law dc_law pm_law an_law cd_law ct_law, fun s v => .of_eq rfl, fun base _ _ => ok_law T⟩
theorem walk {l : PySem.W.OpenLaw} {q : Program} {loose : List Str} {XP : (Str → Option Value) → Heap → Prop} {YP : World → Heap → Prop} {d : DefRec} {K : Params → PySem.W.Frag} (hn : l.most = some 63) (hdf : d.params.defaults = [])
    (hY : ∀ (w : World) (h : Heap), YP w h → (K w.params).In h)
    (F : ∀ (w : World) (mg : Str → Option Value) (fa : Addr) (h : Heap), (K w.params).In h → h.Ns mainGlobals mg → mg d.name = some (.ref fa) →
      ∃ fd : FuncData, (∀ (s : Shared) (u : Value), BindsTo s fd ⟨[u], []⟩ [("_law_script", u)]) ∧ ∀ base : Heap, (K w.params).In base → base.Ns mainGlobals mg → FnC l.prog w (K w.params) mg base (L2.CX l.prog w) 13 fa fd ["_law_script"] (spLaw (K w.params))) :
    PySem.W.WalkO q loose XP YP l.row.toRowW d [] (fun f vs => PySem.call f vs) :=
  walkC_of (n := 63) (k := 13) (x := "_law_script") (CX := fun w => L2.CX l.prog w) (sp := fun w => spLaw (K w.params)) hn (by decide) hdf ⟨rfl, by decide, by decide⟩ hY F (fun _ _ a ns hl _ hS => ⟨a, ns, rfl, hS, fun _ => rfl⟩) fun _ _ _ _ _ z => cx_none z
end Wm

open PySem PySem.W PyProof.Rows in
set_option maxRecDepth 100000 in
set_option maxHeartbeats 0 in
theorem PySem.Challenge.cw_walkmarks_k38_walkers_compared_holds : PySem.Challenge.rw_walkmarks_k38_walkers_compared.Holds := by
  refine PySem.Challenge.top_walkmarks_k38_walkers_compared ?_
  k_fill
  refine Wm.walk (l := PySem.Challenge.rw_walkmarks_k38_walkers_compared) rfl rfl (fun w h Y => PySem.W.kIn_of Y) ?F
  case F =>
    intro w mg fa h KX G hmg
    refine' Wm.all_mk KX G hmg ?z_len ?z_int ?z_list ?z_range ?z_isinstance ?z_str ?z_tuple ?z_set ?z_enumerate ?z_reversed ?z_all ?z_repr ?z_bool ?aG_MODES ?lt_MODES ?ls_MODES ?lv_MODES ?aG_RESERVED ?lt_RESERVED ?ls_RESERVED ?lv_RESERVED ?aG_CAPITALS ?rG_CAPITALS ?aG_LETTERS ?rG_LETTERS ?aG_MOST_BASES ?rG_MOST_BASES ?aC_BadSchema ?init_BadSchema ?ty_BadSchema ?lk_BadSchema ?hc_BadSchema ?code_BadSchema ?hv_BadSchema ?hf_BadSchema ?cell_BadSchema ?ic_BadSchema ?sub_BadSchema ?z_super ?z_tp ?z_top ?sup_BadSchema ?base_BadSchema ?exc_BadSchema ?sa_BadSchema ?ov_BadSchema ?hd_BadSchema ?no_BadSchema_at ?exC_BadSchema ?tyC_BadSchema ?kC_BadSchema ?su_BadSchema ?ga_BadSchema ?gg_BadSchema ?aC_NoKind ?init_NoKind ?ty_NoKind ?lk_NoKind ?hc_NoKind ?code_NoKind ?hv_NoKind ?hf_NoKind ?cell_NoKind ?ic_NoKind ?sub_NoKind ?sup_NoKind ?base_NoKind ?exc_NoKind ?sa_NoKind ?ov_NoKind ?hd_NoKind ?no_NoKind_kind ?exC_NoKind ?tyC_NoKind ?kC_NoKind ?su_NoKind ?ga_NoKind ?gg_NoKind ?aC_BadGuard ?init_BadGuard ?ty_BadGuard ?lk_BadGuard ?hc_BadGuard ?code_BadGuard ?hv_BadGuard ?hf_BadGuard ?cell_BadGuard ?ic_BadGuard ?sub_BadGuard ?sup_BadGuard ?base_BadGuard ?exc_BadGuard ?sa_BadGuard ?ov_BadGuard ?hd_BadGuard ?no_BadGuard_part ?exC_BadGuard ?tyC_BadGuard ?kC_BadGuard ?su_BadGuard ?ga_BadGuard ?gg_BadGuard ?aC_BadWalker ?init_BadWalker ?ty_BadWalker ?lk_BadWalker ?hc_BadWalker ?code_BadWalker ?hv_BadWalker ?hf_BadWalker ?cell_BadWalker ?ic_BadWalker ?sub_BadWalker ?sup_BadWalker ?base_BadWalker ?exc_BadWalker ?sa_BadWalker ?ov_BadWalker ?hd_BadWalker ?no_BadWalker_part ?exC_BadWalker ?tyC_BadWalker ?kC_BadWalker ?su_BadWalker ?ga_BadWalker ?gg_BadWalker ?aC_Kind ?pg_Kind ?hd_Kind ?po_Kind ?sa_Kind ?ha_Kind ?hn_Kind ?ht_Kind ?hm_Kind ?k1_Kind ?b1_Kind ?b2_Kind ?b3_Kind ?b4_Kind ?b5_Kind ?b6_Kind ?b7_Kind ?no_Kind_name ?no_Kind_bases ?no_Kind_is_abstract ?no_Kind_own ?no_Kind_line ?no_Kind_fields ?mk_Kind ?kc_Kind ?aC_Schema ?pg_Schema ?hd_Schema ?po_Schema ?sa_Schema ?ha_Schema ?hn_Schema ?ht_Schema ?hm_Schema ?k1_Schema ?b1_Schema ?b2_Schema ?b3_Schema ?b4_Schema ?b5_Schema ?b6_Schema ?b7_Schema ?no_Schema_rows ?no_Schema_names ?no_Schema_known ?nf1_Schema ?nf2_Schema ?nf3_Schema ?nf4_Schema ?nf5_Schema ?nf6_Schema ?nf7_Schema ?nfo_Schema ?mk_Schema ?kc_Schema ?cr1_Schema ?cr2_Schema ?cr3_Schema_MOST ?cr4_Schema_MOST ?cr3_Schema_FIELDS ?cr4_Schema_FIELDS ?aG_MARKS ?lt_MARKS ?ls_MARKS ?lv_MARKS ?aG_ACTS ?lt_ACTS ?ls_ACTS ?lv_ACTS ?aG_BY ?lt_BY ?ls_BY ?lv_BY ?aG_KEEPS ?lt_KEEPS ?ls_KEEPS ?lv_KEEPS ?aC_Guard ?pg_Guard ?hd_Guard ?po_Guard ?sa_Guard ?ha_Guard ?hn_Guard ?ht_Guard ?hm_Guard ?k1_Guard ?b1_Guard ?b2_Guard ?b3_Guard ?b4_Guard ?b5_Guard ?b6_Guard ?b7_Guard ?no_Guard_mark ?no_Guard_act ?no_Guard_by ?no_Guard_keep ?no_Guard_keep_by ?nf1_Guard ?nf2_Guard ?nf3_Guard ?nf4_Guard ?nf5_Guard ?nf6_Guard ?nf7_Guard ?nfo_Guard ?mk_Guard ?kc_Guard ?a_Guard_init ?i_Guard_init ?l_Guard_init ?c_Guard_init ?k_Guard_init ?dl_Guard_init ?dv_Guard_init ?kw0_Guard_init ?kr0_Guard_init ?kw1_Guard_init ?kr1_Guard_init ?kw2_Guard_init ?kr2_Guard_init ?kw3_Guard_init ?kr3_Guard_init ?z_dict ?z_min ?aG_MOST_LIMIT ?rG_MOST_LIMIT ?aC_Walker ?pg_Walker ?hd_Walker ?po_Walker ?sa_Walker ?ha_Walker ?hn_Walker ?ht_Walker ?hm_Walker ?k1_Walker ?b1_Walker ?b2_Walker ?b3_Walker ?b4_Walker ?b5_Walker ?b6_Walker ?b7_Walker ?no_Walker_schema ?no_Walker_start ?no_Walker_guards ?no_Walker_out ?no_Walker_anew ?no_Walker_limit ?no_Walker_frees ?nf1_Walker ?nf2_Walker ?nf3_Walker ?nf4_Walker ?nf5_Walker ?nf6_Walker ?nf7_Walker ?nfo_Walker ?mk_Walker ?kc_Walker ?a_Walker_init ?i_Walker_init ?l_Walker_init ?c_Walker_init ?k_Walker_init ?kw0_Walker_init ?kr0_Walker_init ?kw1_Walker_init ?kr1_Walker_init ?kw2_Walker_init ?kr2_Walker_init ?kw3_Walker_init ?kr3_Walker_init ?kw4_Walker_init ?kr4_Walker_init ?ne_Walker ?ks0_Walker ?nfs_Walker ?a_is_letters ?l_is_letters ?c_is_letters ?k_is_letters ?a_is_kind_name ?l_is_kind_name ?c_is_kind_name ?k_is_kind_name ?a_is_field_name ?l_is_field_name ?c_is_field_name ?k_is_field_name ?a_is_mode ?l_is_mode ?c_is_mode ?k_is_mode ?a_is_field ?l_is_field ?c_is_field ?k_is_field ?a_is_bases ?l_is_bases ?c_is_bases ?k_is_bases ?a_Kind_init ?i_Kind_init ?l_Kind_init ?c_Kind_init ?k_Kind_init ?a_make_kind ?l_make_kind ?c_make_kind ?k_make_kind ?a_Schema_init ?i_Schema_init ?l_Schema_init ?c_Schema_init ?k_Schema_init ?a_Schema_getitem ?i_Schema_getitem ?l_Schema_getitem ?c_Schema_getitem ?k_Schema_getitem ?a_Schema_under ?i_Schema_under ?l_Schema_under ?c_Schema_under ?k_Schema_under ?a_is_choice ?l_is_choice ?c_is_choice ?k_is_choice ?a_Schema_contains ?i_Schema_contains ?l_Schema_contains ?c_Schema_contains ?k_Schema_contains ?a_is_start ?l_is_start ?c_is_start ?k_is_start ?a_is_pairs ?l_is_pairs ?c_is_pairs ?k_is_pairs ?a_is_guards ?l_is_guards ?c_is_guards ?k_is_guards ?a_is_owned ?l_is_owned ?c_is_owned ?k_is_owned ?a_is_fields ?l_is_fields ?c_is_fields ?k_is_fields ?a_is_limit ?l_is_limit ?c_is_limit ?k_is_limit ?a_wrong_part ?l_wrong_part ?c_wrong_part ?k_wrong_part ?a_guards_in_order ?l_guards_in_order ?c_guards_in_order ?k_guards_in_order ?a_fields_in_order ?l_fields_in_order ?c_fields_in_order ?k_fields_in_order ?a_Schema_eq ?i_Schema_eq ?l_Schema_eq ?c_Schema_eq ?k_Schema_eq ?a_Guard_eq ?i_Guard_eq ?l_Guard_eq ?c_Guard_eq ?k_Guard_eq ?a_Guard_str ?i_Guard_str ?l_Guard_str ?c_Guard_str ?k_Guard_str ?a_Walker_parts ?i_Walker_parts ?l_Walker_parts ?c_Walker_parts ?k_Walker_parts ?a_Walker_eq ?i_Walker_eq ?l_Walker_eq ?c_Walker_eq ?k_Walker_eq ?a_walker_text ?l_walker_text ?c_walker_text ?k_walker_text ?a_Walker_str ?i_Walker_str ?l_Walker_str ?c_Walker_str ?k_Walker_str ?a_l_pen ?l_l_pen ?c_l_pen ?k_l_pen ?a_l_take ?l_l_take ?c_l_take ?k_l_take ?a_l_bit ?l_l_bit ?c_l_bit ?k_l_bit ?a_l_letters ?l_l_letters ?c_l_letters ?k_l_letters ?a_l_names ?l_l_names ?c_l_names ?k_l_names ?a_l_kind_names ?l_l_kind_names ?c_l_kind_names ?k_l_kind_names ?a_l_field_names ?l_l_field_names ?c_l_field_names ?k_l_field_names ?a_l_line ?l_l_line ?c_l_line ?k_l_line ?a_l_fields ?l_l_fields ?c_l_fields ?k_l_fields ?a_l_concrete ?l_l_concrete ?c_l_concrete ?k_l_concrete ?a_l_under ?l_l_under ?c_l_under ?k_l_under ?a_l_merged ?l_l_merged ?c_l_merged ?k_l_merged ?a_l_own_fields ?l_l_own_fields ?c_l_own_fields ?k_l_own_fields ?a_l_rows ?l_l_rows ?c_l_rows ?k_l_rows ?a_l_pick ?l_l_pick ?c_l_pick ?k_l_pick ?a_l_guard_drawn ?l_l_guard_drawn ?c_l_guard_drawn ?k_l_guard_drawn ?a_l_guard_made ?l_l_guard_made ?c_l_guard_made ?k_l_guard_made ?a_l_walker ?l_l_walker ?c_l_walker ?k_l_walker ?a_l_walker_made ?l_l_walker_made ?c_l_walker_made ?k_l_walker_made ?a_l_key ?l_l_key ?c_l_key ?k_l_key ?a_l_one_part ?l_l_one_part ?c_l_one_part ?k_l_one_part ?a_l_turned ?l_l_turned ?c_l_turned ?k_l_turned ?a_law ?l_law ?c_law ?k_law
    (case z_len => walk_at "w_leaf")
    (case z_int => walk_at "w_leaf")
    (case z_list => walk_at "w_leaf")
    (case z_range => walk_at "w_leaf")
    (case z_isinstance => walk_at "w_leaf")
    (case z_str => walk_at "w_leaf")
    (case z_tuple => walk_at "w_leaf")
    (case z_set => walk_at "w_leaf")
    (case z_enumerate => walk_at "w_leaf")
    (case z_reversed => walk_at "w_leaf")
    (case z_all => walk_at "w_leaf")
    (case z_repr => walk_at "w_leaf")
    (case z_bool => walk_at "w_leaf")
    (case aG_MODES => walk_at "w_leaf")
    (case lt_MODES => walk_at "w_leaf")
    (case ls_MODES => walk_at "w_leaf")
    (case lv_MODES => walk_at "w_vals")
    (case aG_RESERVED => walk_at "w_leaf")
    (case lt_RESERVED => walk_at "w_leaf")
    (case ls_RESERVED => walk_at "w_leaf")
    (case lv_RESERVED => walk_at "w_vals")
    (case aG_CAPITALS => walk_at "w_leaf")
    (case rG_CAPITALS => walk_at "w_rel")
    (case aG_LETTERS => walk_at "w_leaf")
    (case rG_LETTERS => walk_at "w_rel")
    (case aG_MOST_BASES => walk_at "w_leaf")
    (case rG_MOST_BASES => walk_at "w_rel")
    (case aC_BadSchema => walk_at "w_leaf")
    (case init_BadSchema => walk_at "w_leaf")
    (case ty_BadSchema => walk_at "w_leaf")
    (case lk_BadSchema => walk_at "w_leaf")
    (case hc_BadSchema => walk_at "w_leaf")
    (case code_BadSchema => walk_at "w_leaf")
    (case hv_BadSchema => walk_at "w_leaf")
    (case hf_BadSchema => walk_at "w_leaf")
    (case cell_BadSchema => walk_at "w_leaf")
    (case ic_BadSchema => walk_at "w_leaf")
    (case sub_BadSchema => walk_at "w_leaf")
    (case z_super => walk_at "w_leaf")
    (case z_tp => walk_at "w_leaf")
    (case z_top => walk_at "w_leaf")
    (case sup_BadSchema => walk_at "w_leaf")
    (case base_BadSchema => walk_at "w_leaf")
    (case exc_BadSchema => walk_at "w_leaf")
    (case sa_BadSchema => walk_at "w_leaf")
    (case ov_BadSchema => walk_at "w_leaf")
    (case hd_BadSchema => walk_at "w_leaf")
    (case no_BadSchema_at => walk_at "w_leaf")
    (case exC_BadSchema => walk_at "w_leaf")
    (case tyC_BadSchema => walk_at "w_leaf")
    (case kC_BadSchema => walk_at "w_leaf")
    (case su_BadSchema => walk_at "w_leaf")
    (case ga_BadSchema => walk_at "w_leaf")
    (case gg_BadSchema => walk_at "w_leaf")
    (case aC_NoKind => walk_at "w_leaf")
    (case init_NoKind => walk_at "w_leaf")
    (case ty_NoKind => walk_at "w_leaf")
    (case lk_NoKind => walk_at "w_leaf")
    (case hc_NoKind => walk_at "w_leaf")
    (case code_NoKind => walk_at "w_leaf")
    (case hv_NoKind => walk_at "w_leaf")
    (case hf_NoKind => walk_at "w_leaf")
    (case cell_NoKind => walk_at "w_leaf")
    (case ic_NoKind => walk_at "w_leaf")
    (case sub_NoKind => walk_at "w_leaf")
    (case sup_NoKind => walk_at "w_leaf")
    (case base_NoKind => walk_at "w_leaf")
    (case exc_NoKind => walk_at "w_leaf")
    (case sa_NoKind => walk_at "w_leaf")
    (case ov_NoKind => walk_at "w_leaf")
    (case hd_NoKind => walk_at "w_leaf")
    (case no_NoKind_kind => walk_at "w_leaf")
    (case exC_NoKind => walk_at "w_leaf")
    (case tyC_NoKind => walk_at "w_leaf")
    (case kC_NoKind => walk_at "w_leaf")
    (case su_NoKind => walk_at "w_leaf")
    (case ga_NoKind => walk_at "w_leaf")
    (case gg_NoKind => walk_at "w_leaf")
    (case aC_BadGuard => walk_at "w_leaf")
    (case init_BadGuard => walk_at "w_leaf")
    (case ty_BadGuard => walk_at "w_leaf")
    (case lk_BadGuard => walk_at "w_leaf")
    (case hc_BadGuard => walk_at "w_leaf")
    (case code_BadGuard => walk_at "w_leaf")
    (case hv_BadGuard => walk_at "w_leaf")
    (case hf_BadGuard => walk_at "w_leaf")
    (case cell_BadGuard => walk_at "w_leaf")
    (case ic_BadGuard => walk_at "w_leaf")
    (case sub_BadGuard => walk_at "w_leaf")
    (case sup_BadGuard => walk_at "w_leaf")
    (case base_BadGuard => walk_at "w_leaf")
    (case exc_BadGuard => walk_at "w_leaf")
    (case sa_BadGuard => walk_at "w_leaf")
    (case ov_BadGuard => walk_at "w_leaf")
    (case hd_BadGuard => walk_at "w_leaf")
    (case no_BadGuard_part => walk_at "w_leaf")
    (case exC_BadGuard => walk_at "w_leaf")
    (case tyC_BadGuard => walk_at "w_leaf")
    (case kC_BadGuard => walk_at "w_leaf")
    (case su_BadGuard => walk_at "w_leaf")
    (case ga_BadGuard => walk_at "w_leaf")
    (case gg_BadGuard => walk_at "w_leaf")
    (case aC_BadWalker => walk_at "w_leaf")
    (case init_BadWalker => walk_at "w_leaf")
    (case ty_BadWalker => walk_at "w_leaf")
    (case lk_BadWalker => walk_at "w_leaf")
    (case hc_BadWalker => walk_at "w_leaf")
    (case code_BadWalker => walk_at "w_leaf")
    (case hv_BadWalker => walk_at "w_leaf")
    (case hf_BadWalker => walk_at "w_leaf")
    (case cell_BadWalker => walk_at "w_leaf")
    (case ic_BadWalker => walk_at "w_leaf")
    (case sub_BadWalker => walk_at "w_leaf")
    (case sup_BadWalker => walk_at "w_leaf")
    (case base_BadWalker => walk_at "w_leaf")
    (case exc_BadWalker => walk_at "w_leaf")
    (case sa_BadWalker => walk_at "w_leaf")
    (case ov_BadWalker => walk_at "w_leaf")
    (case hd_BadWalker => walk_at "w_leaf")
    (case no_BadWalker_part => walk_at "w_leaf")
    (case exC_BadWalker => walk_at "w_leaf")
    (case tyC_BadWalker => walk_at "w_leaf")
    (case kC_BadWalker => walk_at "w_leaf")
    (case su_BadWalker => walk_at "w_leaf")
    (case ga_BadWalker => walk_at "w_leaf")
    (case gg_BadWalker => walk_at "w_leaf")
    (case aC_Kind => walk_at "w_leaf")
    (case pg_Kind => walk_at "w_leaf")
    (case hd_Kind => walk_at "w_leaf")
    (case po_Kind => walk_at "w_leaf")
    (case sa_Kind => walk_at "w_leaf")
    (case ha_Kind => walk_at "w_leaf")
    (case hn_Kind => walk_at "w_leaf")
    (case ht_Kind => walk_at "w_leaf")
    (case hm_Kind => walk_at "w_leaf")
    (case k1_Kind => walk_at "w_leaf")
    (case b1_Kind => walk_at "w_leaf")
    (case b2_Kind => walk_at "w_leaf")
    (case b3_Kind => walk_at "w_leaf")
    (case b4_Kind => walk_at "w_leaf")
    (case b5_Kind => walk_at "w_leaf")
    (case b6_Kind => walk_at "w_leaf")
    (case b7_Kind => walk_at "w_leaf")
    (case no_Kind_name => walk_at "w_leaf")
    (case no_Kind_bases => walk_at "w_leaf")
    (case no_Kind_is_abstract => walk_at "w_leaf")
    (case no_Kind_own => walk_at "w_leaf")
    (case no_Kind_line => walk_at "w_leaf")
    (case no_Kind_fields => walk_at "w_leaf")
    (case mk_Kind => walk_at "w_leaf")
    (case kc_Kind => walk_at "w_leaf")
    (case aC_Schema => walk_at "w_leaf")
    (case pg_Schema => walk_at "w_leaf")
    (case hd_Schema => walk_at "w_leaf")
    (case po_Schema => walk_at "w_leaf")
    (case sa_Schema => walk_at "w_leaf")
    (case ha_Schema => walk_at "w_leaf")
    (case hn_Schema => walk_at "w_leaf")
    (case ht_Schema => walk_at "w_leaf")
    (case hm_Schema => walk_at "w_leaf")
    (case k1_Schema => walk_at "w_leaf")
    (case b1_Schema => walk_at "w_leaf")
    (case b2_Schema => walk_at "w_leaf")
    (case b3_Schema => walk_at "w_leaf")
    (case b4_Schema => walk_at "w_leaf")
    (case b5_Schema => walk_at "w_leaf")
    (case b6_Schema => walk_at "w_leaf")
    (case b7_Schema => walk_at "w_leaf")
    (case no_Schema_rows => walk_at "w_leaf")
    (case no_Schema_names => walk_at "w_leaf")
    (case no_Schema_known => walk_at "w_leaf")
    (case nf1_Schema => walk_at "w_leaf")
    (case nf2_Schema => walk_at "w_leaf")
    (case nf3_Schema => walk_at "w_leaf")
    (case nf4_Schema => walk_at "w_leaf")
    (case nf5_Schema => walk_at "w_leaf")
    (case nf6_Schema => walk_at "w_leaf")
    (case nf7_Schema => walk_at "w_leaf")
    (case nfo_Schema => walk_at "w_leaf")
    (case mk_Schema => walk_at "w_leaf")
    (case kc_Schema => walk_at "w_leaf")
    (case cr1_Schema => walk_at "w_leaf")
    (case cr2_Schema => walk_at "w_leaf")
    (case cr3_Schema_MOST => walk_at "w_leaf")
    (case cr4_Schema_MOST => walk_at "w_rel")
    (case cr3_Schema_FIELDS => walk_at "w_leaf")
    (case cr4_Schema_FIELDS => walk_at "w_rel")
    (case aG_MARKS => walk_at "w_leaf")
    (case lt_MARKS => walk_at "w_leaf")
    (case ls_MARKS => walk_at "w_leaf")
    (case lv_MARKS => walk_at "w_vals")
    (case aG_ACTS => walk_at "w_leaf")
    (case lt_ACTS => walk_at "w_leaf")
    (case ls_ACTS => walk_at "w_leaf")
    (case lv_ACTS => walk_at "w_vals")
    (case aG_BY => walk_at "w_leaf")
    (case lt_BY => walk_at "w_leaf")
    (case ls_BY => walk_at "w_leaf")
    (case lv_BY => walk_at "w_vals")
    (case aG_KEEPS => walk_at "w_leaf")
    (case lt_KEEPS => walk_at "w_leaf")
    (case ls_KEEPS => walk_at "w_leaf")
    (case lv_KEEPS => walk_at "w_vals")
    (case aC_Guard => walk_at "w_leaf")
    (case pg_Guard => walk_at "w_leaf")
    (case hd_Guard => walk_at "w_leaf")
    (case po_Guard => walk_at "w_leaf")
    (case sa_Guard => walk_at "w_leaf")
    (case ha_Guard => walk_at "w_leaf")
    (case hn_Guard => walk_at "w_leaf")
    (case ht_Guard => walk_at "w_leaf")
    (case hm_Guard => walk_at "w_leaf")
    (case k1_Guard => walk_at "w_leaf")
    (case b1_Guard => walk_at "w_leaf")
    (case b2_Guard => walk_at "w_leaf")
    (case b3_Guard => walk_at "w_leaf")
    (case b4_Guard => walk_at "w_leaf")
    (case b5_Guard => walk_at "w_leaf")
    (case b6_Guard => walk_at "w_leaf")
    (case b7_Guard => walk_at "w_leaf")
    (case no_Guard_mark => walk_at "w_leaf")
    (case no_Guard_act => walk_at "w_leaf")
    (case no_Guard_by => walk_at "w_leaf")
    (case no_Guard_keep => walk_at "w_leaf")
    (case no_Guard_keep_by => walk_at "w_leaf")
    (case nf1_Guard => walk_at "w_leaf")
    (case nf2_Guard => walk_at "w_leaf")
    (case nf3_Guard => walk_at "w_leaf")
    (case nf4_Guard => walk_at "w_leaf")
    (case nf5_Guard => walk_at "w_leaf")
    (case nf6_Guard => walk_at "w_leaf")
    (case nf7_Guard => walk_at "w_leaf")
    (case nfo_Guard => walk_at "w_leaf")
    (case mk_Guard => walk_at "w_leaf")
    (case kc_Guard => walk_at "w_leaf")
    (case a_Guard_init => walk_at "w_leaf")
    (case i_Guard_init => walk_at "w_leaf")
    (case l_Guard_init => walk_at "w_leaf")
    (case c_Guard_init => walk_at "w_leaf")
    (case k_Guard_init => walk_at "w_leaf")
    (case dl_Guard_init => walk_at "w_leaf")
    (case dv_Guard_init => walk_at "w_vals")
    (case kw0_Guard_init => walk_at "w_leaf")
    (case kr0_Guard_init => walk_at "w_rel")
    (case kw1_Guard_init => walk_at "w_leaf")
    (case kr1_Guard_init => walk_at "w_rel")
    (case kw2_Guard_init => walk_at "w_leaf")
    (case kr2_Guard_init => walk_at "w_rel")
    (case kw3_Guard_init => walk_at "w_leaf")
    (case kr3_Guard_init => walk_at "w_rel")
    (case z_dict => walk_at "w_leaf")
    (case z_min => walk_at "w_leaf")
    (case aG_MOST_LIMIT => walk_at "w_leaf")
    (case rG_MOST_LIMIT => walk_at "w_rel")
    (case aC_Walker => walk_at "w_leaf")
    (case pg_Walker => walk_at "w_leaf")
    (case hd_Walker => walk_at "w_leaf")
    (case po_Walker => walk_at "w_leaf")
    (case sa_Walker => walk_at "w_leaf")
    (case ha_Walker => walk_at "w_leaf")
    (case hn_Walker => walk_at "w_leaf")
    (case ht_Walker => walk_at "w_leaf")
    (case hm_Walker => walk_at "w_leaf")
    (case k1_Walker => walk_at "w_leaf")
    (case b1_Walker => walk_at "w_leaf")
    (case b2_Walker => walk_at "w_leaf")
    (case b3_Walker => walk_at "w_leaf")
    (case b4_Walker => walk_at "w_leaf")
    (case b5_Walker => walk_at "w_leaf")
    (case b6_Walker => walk_at "w_leaf")
    (case b7_Walker => walk_at "w_leaf")
    (case no_Walker_schema => walk_at "w_leaf")
    (case no_Walker_start => walk_at "w_leaf")
    (case no_Walker_guards => walk_at "w_leaf")
    (case no_Walker_out => walk_at "w_leaf")
    (case no_Walker_anew => walk_at "w_leaf")
    (case no_Walker_limit => walk_at "w_leaf")
    (case no_Walker_frees => walk_at "w_leaf")
    (case nf1_Walker => walk_at "w_leaf")
    (case nf2_Walker => walk_at "w_leaf")
    (case nf3_Walker => walk_at "w_leaf")
    (case nf4_Walker => walk_at "w_leaf")
    (case nf5_Walker => walk_at "w_leaf")
    (case nf6_Walker => walk_at "w_leaf")
    (case nf7_Walker => walk_at "w_leaf")
    (case nfo_Walker => walk_at "w_leaf")
    (case mk_Walker => walk_at "w_leaf")
    (case kc_Walker => walk_at "w_leaf")
    (case a_Walker_init => walk_at "w_leaf")
    (case i_Walker_init => walk_at "w_leaf")
    (case l_Walker_init => walk_at "w_leaf")
    (case c_Walker_init => walk_at "w_leaf")
    (case k_Walker_init => walk_at "w_leaf")
    (case kw0_Walker_init => walk_at "w_leaf")
    (case kr0_Walker_init => walk_at "w_rel")
    (case kw1_Walker_init => walk_at "w_leaf")
    (case kr1_Walker_init => walk_at "w_rel")
    (case kw2_Walker_init => walk_at "w_leaf")
    (case kr2_Walker_init => walk_at "w_rel")
    (case kw3_Walker_init => walk_at "w_leaf")
    (case kr3_Walker_init => walk_at "w_rel")
    (case kw4_Walker_init => walk_at "w_leaf")
    (case kr4_Walker_init => walk_at "w_rel")
    (case ne_Walker => walk_at "w_leaf")
    (case ks0_Walker => walk_at "w_leaf")
    (case nfs_Walker => walk_at "w_leaf")
    (case a_is_letters => walk_at "w_leaf")
    (case l_is_letters => walk_at "w_leaf")
    (case c_is_letters => walk_at "w_leaf")
    (case k_is_letters => walk_at "w_leaf")
    (case a_is_kind_name => walk_at "w_leaf")
    (case l_is_kind_name => walk_at "w_leaf")
    (case c_is_kind_name => walk_at "w_leaf")
    (case k_is_kind_name => walk_at "w_leaf")
    (case a_is_field_name => walk_at "w_leaf")
    (case l_is_field_name => walk_at "w_leaf")
    (case c_is_field_name => walk_at "w_leaf")
    (case k_is_field_name => walk_at "w_leaf")
    (case a_is_mode => walk_at "w_leaf")
    (case l_is_mode => walk_at "w_leaf")
    (case c_is_mode => walk_at "w_leaf")
    (case k_is_mode => walk_at "w_leaf")
    (case a_is_field => walk_at "w_leaf")
    (case l_is_field => walk_at "w_leaf")
    (case c_is_field => walk_at "w_leaf")
    (case k_is_field => walk_at "w_leaf")
    (case a_is_bases => walk_at "w_leaf")
    (case l_is_bases => walk_at "w_leaf")
    (case c_is_bases => walk_at "w_leaf")
    (case k_is_bases => walk_at "w_leaf")
    (case a_Kind_init => walk_at "w_leaf")
    (case i_Kind_init => walk_at "w_leaf")
    (case l_Kind_init => walk_at "w_leaf")
    (case c_Kind_init => walk_at "w_leaf")
    (case k_Kind_init => walk_at "w_leaf")
    (case a_make_kind => walk_at "w_leaf")
    (case l_make_kind => walk_at "w_leaf")
    (case c_make_kind => walk_at "w_leaf")
    (case k_make_kind => walk_at "w_leaf")
    (case a_Schema_init => walk_at "w_leaf")
    (case i_Schema_init => walk_at "w_leaf")
    (case l_Schema_init => walk_at "w_leaf")
    (case c_Schema_init => walk_at "w_leaf")
    (case k_Schema_init => walk_at "w_leaf")
    (case a_Schema_getitem => walk_at "w_leaf")
    (case i_Schema_getitem => walk_at "w_leaf")
    (case l_Schema_getitem => walk_at "w_leaf")
    (case c_Schema_getitem => walk_at "w_leaf")
    (case k_Schema_getitem => walk_at "w_leaf")
    (case a_Schema_under => walk_at "w_leaf")
    (case i_Schema_under => walk_at "w_leaf")
    (case l_Schema_under => walk_at "w_leaf")
    (case c_Schema_under => walk_at "w_leaf")
    (case k_Schema_under => walk_at "w_leaf")
    (case a_is_choice => walk_at "w_leaf")
    (case l_is_choice => walk_at "w_leaf")
    (case c_is_choice => walk_at "w_leaf")
    (case k_is_choice => walk_at "w_leaf")
    (case a_Schema_contains => walk_at "w_leaf")
    (case i_Schema_contains => walk_at "w_leaf")
    (case l_Schema_contains => walk_at "w_leaf")
    (case c_Schema_contains => walk_at "w_leaf")
    (case k_Schema_contains => walk_at "w_leaf")
    (case a_is_start => walk_at "w_leaf")
    (case l_is_start => walk_at "w_leaf")
    (case c_is_start => walk_at "w_leaf")
    (case k_is_start => walk_at "w_leaf")
    (case a_is_pairs => walk_at "w_leaf")
    (case l_is_pairs => walk_at "w_leaf")
    (case c_is_pairs => walk_at "w_leaf")
    (case k_is_pairs => walk_at "w_leaf")
    (case a_is_guards => walk_at "w_leaf")
    (case l_is_guards => walk_at "w_leaf")
    (case c_is_guards => walk_at "w_leaf")
    (case k_is_guards => walk_at "w_leaf")
    (case a_is_owned => walk_at "w_leaf")
    (case l_is_owned => walk_at "w_leaf")
    (case c_is_owned => walk_at "w_leaf")
    (case k_is_owned => walk_at "w_leaf")
    (case a_is_fields => walk_at "w_leaf")
    (case l_is_fields => walk_at "w_leaf")
    (case c_is_fields => walk_at "w_leaf")
    (case k_is_fields => walk_at "w_leaf")
    (case a_is_limit => walk_at "w_leaf")
    (case l_is_limit => walk_at "w_leaf")
    (case c_is_limit => walk_at "w_leaf")
    (case k_is_limit => walk_at "w_leaf")
    (case a_wrong_part => walk_at "w_leaf")
    (case l_wrong_part => walk_at "w_leaf")
    (case c_wrong_part => walk_at "w_leaf")
    (case k_wrong_part => walk_at "w_leaf")
    (case a_guards_in_order => walk_at "w_leaf")
    (case l_guards_in_order => walk_at "w_leaf")
    (case c_guards_in_order => walk_at "w_leaf")
    (case k_guards_in_order => walk_at "w_leaf")
    (case a_fields_in_order => walk_at "w_leaf")
    (case l_fields_in_order => walk_at "w_leaf")
    (case c_fields_in_order => walk_at "w_leaf")
    (case k_fields_in_order => walk_at "w_leaf")
    (case a_Schema_eq => walk_at "w_leaf")
    (case i_Schema_eq => walk_at "w_leaf")
    (case l_Schema_eq => walk_at "w_leaf")
    (case c_Schema_eq => walk_at "w_leaf")
    (case k_Schema_eq => walk_at "w_leaf")
    (case a_Guard_eq => walk_at "w_leaf")
    (case i_Guard_eq => walk_at "w_leaf")
    (case l_Guard_eq => walk_at "w_leaf")
    (case c_Guard_eq => walk_at "w_leaf")
    (case k_Guard_eq => walk_at "w_leaf")
    (case a_Guard_str => walk_at "w_leaf")
    (case i_Guard_str => walk_at "w_leaf")
    (case l_Guard_str => walk_at "w_leaf")
    (case c_Guard_str => walk_at "w_leaf")
    (case k_Guard_str => walk_at "w_leaf")
    (case a_Walker_parts => walk_at "w_leaf")
    (case i_Walker_parts => walk_at "w_leaf")
    (case l_Walker_parts => walk_at "w_leaf")
    (case c_Walker_parts => walk_at "w_leaf")
    (case k_Walker_parts => walk_at "w_leaf")
    (case a_Walker_eq => walk_at "w_leaf")
    (case i_Walker_eq => walk_at "w_leaf")
    (case l_Walker_eq => walk_at "w_leaf")
    (case c_Walker_eq => walk_at "w_leaf")
    (case k_Walker_eq => walk_at "w_leaf")
    (case a_walker_text => walk_at "w_leaf")
    (case l_walker_text => walk_at "w_leaf")
    (case c_walker_text => walk_at "w_leaf")
    (case k_walker_text => walk_at "w_leaf")
    (case a_Walker_str => walk_at "w_leaf")
    (case i_Walker_str => walk_at "w_leaf")
    (case l_Walker_str => walk_at "w_leaf")
    (case c_Walker_str => walk_at "w_leaf")
    (case k_Walker_str => walk_at "w_leaf")
    (case a_l_pen => walk_at "w_leaf")
    (case l_l_pen => walk_at "w_leaf")
    (case c_l_pen => walk_at "w_leaf")
    (case k_l_pen => walk_at "w_leaf")
    (case a_l_take => walk_at "w_leaf")
    (case l_l_take => walk_at "w_leaf")
    (case c_l_take => walk_at "w_leaf")
    (case k_l_take => walk_at "w_leaf")
    (case a_l_bit => walk_at "w_leaf")
    (case l_l_bit => walk_at "w_leaf")
    (case c_l_bit => walk_at "w_leaf")
    (case k_l_bit => walk_at "w_leaf")
    (case a_l_letters => walk_at "w_leaf")
    (case l_l_letters => walk_at "w_leaf")
    (case c_l_letters => walk_at "w_leaf")
    (case k_l_letters => walk_at "w_leaf")
    (case a_l_names => walk_at "w_leaf")
    (case l_l_names => walk_at "w_leaf")
    (case c_l_names => walk_at "w_leaf")
    (case k_l_names => walk_at "w_leaf")
    (case a_l_kind_names => walk_at "w_leaf")
    (case l_l_kind_names => walk_at "w_leaf")
    (case c_l_kind_names => walk_at "w_leaf")
    (case k_l_kind_names => walk_at "w_leaf")
    (case a_l_field_names => walk_at "w_leaf")
    (case l_l_field_names => walk_at "w_leaf")
    (case c_l_field_names => walk_at "w_leaf")
    (case k_l_field_names => walk_at "w_leaf")
    (case a_l_line => walk_at "w_leaf")
    (case l_l_line => walk_at "w_leaf")
    (case c_l_line => walk_at "w_leaf")
    (case k_l_line => walk_at "w_leaf")
    (case a_l_fields => walk_at "w_leaf")
    (case l_l_fields => walk_at "w_leaf")
    (case c_l_fields => walk_at "w_leaf")
    (case k_l_fields => walk_at "w_leaf")
    (case a_l_concrete => walk_at "w_leaf")
    (case l_l_concrete => walk_at "w_leaf")
    (case c_l_concrete => walk_at "w_leaf")
    (case k_l_concrete => walk_at "w_leaf")
    (case a_l_under => walk_at "w_leaf")
    (case l_l_under => walk_at "w_leaf")
    (case c_l_under => walk_at "w_leaf")
    (case k_l_under => walk_at "w_leaf")
    (case a_l_merged => walk_at "w_leaf")
    (case l_l_merged => walk_at "w_leaf")
    (case c_l_merged => walk_at "w_leaf")
    (case k_l_merged => walk_at "w_leaf")
    (case a_l_own_fields => walk_at "w_leaf")
    (case l_l_own_fields => walk_at "w_leaf")
    (case c_l_own_fields => walk_at "w_leaf")
    (case k_l_own_fields => walk_at "w_leaf")
    (case a_l_rows => walk_at "w_leaf")
    (case l_l_rows => walk_at "w_leaf")
    (case c_l_rows => walk_at "w_leaf")
    (case k_l_rows => walk_at "w_leaf")
    (case a_l_pick => walk_at "w_leaf")
    (case l_l_pick => walk_at "w_leaf")
    (case c_l_pick => walk_at "w_leaf")
    (case k_l_pick => walk_at "w_leaf")
    (case a_l_guard_drawn => walk_at "w_leaf")
    (case l_l_guard_drawn => walk_at "w_leaf")
    (case c_l_guard_drawn => walk_at "w_leaf")
    (case k_l_guard_drawn => walk_at "w_leaf")
    (case a_l_guard_made => walk_at "w_leaf")
    (case l_l_guard_made => walk_at "w_leaf")
    (case c_l_guard_made => walk_at "w_leaf")
    (case k_l_guard_made => walk_at "w_leaf")
    (case a_l_walker => walk_at "w_leaf")
    (case l_l_walker => walk_at "w_leaf")
    (case c_l_walker => walk_at "w_leaf")
    (case k_l_walker => walk_at "w_leaf")
    (case a_l_walker_made => walk_at "w_leaf")
    (case l_l_walker_made => walk_at "w_leaf")
    (case c_l_walker_made => walk_at "w_leaf")
    (case k_l_walker_made => walk_at "w_leaf")
    (case a_l_key => walk_at "w_leaf")
    (case l_l_key => walk_at "w_leaf")
    (case c_l_key => walk_at "w_leaf")
    (case k_l_key => walk_at "w_leaf")
    (case a_l_one_part => walk_at "w_leaf")
    (case l_l_one_part => walk_at "w_leaf")
    (case c_l_one_part => walk_at "w_leaf")
    (case k_l_one_part => walk_at "w_leaf")
    (case a_l_turned => walk_at "w_leaf")
    (case l_l_turned => walk_at "w_leaf")
    (case c_l_turned => walk_at "w_leaf")
    (case k_l_turned => walk_at "w_leaf")
    (case a_law => walk_at "w_leaf")
    (case l_law => walk_at "w_leaf")
    (case c_law => walk_at "w_leaf")
    (case k_law => walk_at "w_leaf")
