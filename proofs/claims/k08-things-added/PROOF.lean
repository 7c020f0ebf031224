import PyProof.Rows.All
import Wide.All
import OpenK.AllK
import Wide.FinOn
import KE.KExcSuper
import HandS.List
import HandS.Exc
import HandS.ExcOwn
import HandS.ExcInit
import HandS.ExcField
import HandS.WordsExc
import HandS.ForMost
import HandS.Wide
import HandS.IsInst
import HandS.MakeKwOnly
import HandS.ClsMeth
import KE.Datum
import KE.KExcLine
import HandS.TryOnly
import HandS.Evl
import HandS.Comp
import HandS.Star
import HandS.More
import HandS.DeepEq
import HandS.ExcIs
import HandS.ExcValue
import HandS.Text
import HandS.FStr
import KE.KCallOwn
import HandS.Strs
import HandS.Zip
import HandS.Walk
import KE.DataEq
import HandS.Rev
import HandS.Conv
import KE.KDictList
import PyProof.TupleOfSeq
import PyProof.AutoSeq1
import OpenK.KMeth
import HandS.FStrTup
import PyProof.ReprHeads
import PyProof.ReprHeadsEmpty
import PyProof.ReprReads
import PyProof.StrHeap
import PyProof.ReprLen
import PyProof.StrLawsRepr
import KE.GoesEnum
import KE.DatumMore
import HandS.Flow
import PyProof.StrLawsTight
import PyProof.StrLawsChain
import HandS.TupAny
import OpenK.KOps
import KE.KDictPairs
import HandS.DictComp
import PyProof.ReprRoads
import PyProof.ReprBulk
import HandS.Ends
import HandS.TupLe
import KE.KEqNest
import HandS.DictEq
import HandS.TryMany
import PyProof.FString
import HandS.RaiseMore
import PyProof.Rows.StrItems
import KE.KIntText
import HandS.Property
import HandS.GenYield
import PyProof.GenComp
import HandS.GenList
import HandS.ListItems
import KE.KItemsList
import KE.KParD
import PySem.Challenge.RW_walkmarks_k08_things_added
set_option Elab.async false
set_option linter.all false
set_option maxRecDepth 400000
set_option maxHeartbeats 4000000
namespace PySem
namespace Er
open PySem.W PySem.Calls PyProof.Rows PySem.HandSPX
def supCall (a1 a2 a3 a4 a5 a6 : Pos) (t : Str) : Stmt :=
  .Expr (.Call (.Attribute (.Call (.Name "super" a1) [] [] a2) "__init__" a3) [.Constant (.str t) 0 a4] [] a5) a6
structure SupTxt (prog : Program) (K : Frag) (C cda cc : Addr) (B newId initId : String) (bmB : List Value) : Prop where
  code : ∃ ccl cdd ccs, ∃ (vs : Array Value) (file : Str) (tf : Tok), K.lookup cda = some ⟨ccl, cdd, .fields vs, ccs⟩ ∧ vs[2]? = some (.str file tf) ∧ ((prog.main.file : Str) == file) = true
  cell : ∃ cl cld csl, K.lookup cc = some ⟨cl, cld, .cell (some (.ref C)), csl⟩
  cls : ∃ cd, clsIn K C = some cd
  sub : mroIn K C (.ref C) = some true
  noS : nsIn K mainGlobals "super" = some none
  noT : nsIn K cStatics "thirdparty.any" = some none
  top : (prog.main.scope.names.lookup ("super" : Str)).isSome = false
  sup : ks_superIn K C C "__init__" = some (some (.builtin initId))
  base : subIn K (.ref C) (.type B) = some true
  exc : excInitIn K C bmB newId = true
section
variable {prog : Program} {w : World} {A : Around} {E : Value → Shared → Prop} {K : Frag} {mg mb : Str → Option Value} {C fI cda cc : Addr} {B newId initId : String} {bmB : List Value}
theorem er_loadG {s : Shared} {env : Env} {Q : Value → Shared → Prop} (hk : env.scope.kind = .function) (hx : env.kindOf "super" = some .globalImplicit) (hg : s.heap.Ns env.globals mg) (hb : s.heap.Ns env.builtins mb)
    (n : mg "super" = none) (b : mb "super" = some (.type "super")) (h : Q (.type "super") s) : wpAny (model prog w) A (loadName env "super") Q E s :=
  ks_loadName_global hk hx (loadGlobal_builtin (env := env) hg n hb b h)
theorem er_super {h₀ h : Heap} {g : Array GenState} {d : Drawn} {tk : Nat} {os : OsState} {x t0 L : Addr} {m : Str → Option Value} {q : Str} {scope : Scope} {full rest : List Stmt} {fd : FuncData} {oc : Value} {od : Option Addr} {osl : Array (Option Value)} {ar : Arg}
    {a1 a2 a3 a4 a5 a6 : Pos} {t : Str} {Q : Flow → Shared → Prop}
    (T : SupTxt prog K C cda cc B newId initId bmB) (KF : KxsFacts B initId) (FB : ExcBaseFacts B newId initId bmB) (F : Fr h₀ L h m) (X₀ : K.In h₀) (hx : News h₀ L h [(x, excObj C t0 none .none)])
    (hg : h₀.Ns mainGlobals mg) (hb : h₀.Ns builtinsNs mb) (hmb : mb "super" = bootBuiltins "super")
    (hf : K.lookup fI = some ⟨oc, od, .func fd, osl⟩) (hp : (fd.params.posonlyargs ++ fd.params.args).head? = some ar) (har : m ar.arg = some (.ref x)) (hks : scope.names.lookup ("super" : Str) = some .globalImplicit)
    {pl : Sem Bool} (he : eval (.Call (.Attribute (.Call (.Name "super" a1) [] [] a2) "__init__" a3) [.Constant (.str t) 0 a4] [] a5) (ksEnv q scope L fI (.ref cda) cc) = (do
      let ov ← attributeBase (.Call (.Name "super" a1) [] [] a2) "__init__" (ksEnv q scope L fI (.ref cda) cc) (eval (.Call (.Name "super" a1) [] [] a2) (ksEnv q scope L fI (.ref cda) cc))
      standAt a3.atName
      let (f, first) ← holding [ov] (getMethod ov "__init__" pl)
      callWith a5 f first (backTo a5 (starEach [.Constant (.str t) 0 a4] (ksEnv q scope L fI (.ref cda) cc))) []))
    (hkc : scope.names.lookup ("__class__" : Str) = some .free) (hka : scope.names.lookup ar.arg = some .local) (hk : scope.kind = .function)
    (hq : ∀ h' tk' t', Fr h₀ L h' m → h'.get? x = some (excObj C t' none .none) → wpAny (model prog w) A (execs rest (ksEnv q scope L fI (.ref cda) cc)) Q E ⟨h', g, d, tk', os⟩) :
    _root_.PySem.wpAt (model prog w) A (.func full (ksEnv q scope L fI (.ref cda) cc)) (execs (supCall a1 a2 a3 a4 a5 a6 t :: rest) (ksEnv q scope L fI (.ref cda) cc)) Q E ⟨h, g, d, tk, os⟩ := by
  obtain ⟨ccl, cdd, ccs, vs, file, tf, hcode, hvs, hfile⟩ := T.code
  obtain ⟨cl, cld, csl, hcell⟩ := T.cell
  obtain ⟨cd, hD⟩ := T.cls
  have X : K.In h := X₀.keeps F.keep
  have I : InstAt h x (excObj C t0 none .none) C none := .of_exc0 hx (by simp)
  obtain ⟨oD, hD1, hD2⟩ : ∃ oD, h.get? C = some oD ∧ oD.data = .cls cd := by
    unfold clsIn at hD
    split at hD
    · rename_i c d cd' sl ho
      cases hD
      exact ⟨_, X _ _ ho, rfl⟩
    · cases hD
  refine ks_wpAt_execs_cons (ks_wpAt_Expr_any (ks_wpAt_MethodCall ?_ he) ?_ (by rfl))
  · refine ks_wpAt_super_base (env := ksEnv q scope L fI (.ref cda) cc) hks hkc (by decide) rfl (X _ _ hf) rfl hp rfl (X _ _ hcode) rfl hvs hfile T.top ?_
    refine er_loadG (env := ksEnv q scope L fI (.ref cda) cc) hk hks (hg.keeps F.keep) (hb.keeps F.keep) (mg_none_of X₀ hg T.noS) (hmb.trans (by first | rfl | decide +kernel)) ⟨rfl, ?_⟩
    refine wpAny_loadName_free hk hkc rfl ⟨_, X _ _ hcell, rfl⟩ ?_
    refine wpAny_loadName_local hk hka F.ns har ?_
    refine ks_wpAny_isType_cls hD1 hD2 ⟨rfl, ?_⟩
    refine ks_wpAny_call_super hD1 hD2 I.at_ I.cls (fun c e => ?_) (looks_mroIn X T.sub) (fun h' e k => ?_)
    · cases e
    obtain ⟨F1, N1, l1⟩ := ks_newsPush (s := ⟨h, g, d, tk, os⟩) F hx rfl e k
    have I1 : InstAt h' x (excObj C t0 none .none) C none := .of_exc0 N1 (by simp)
    refine kxs_method (s := ⟨h', g, d, tk, os⟩) (D := C) (x := x) (C := C) KF F1 X₀ N1 (by simp) I1 T.noT T.sup T.base (by decide) (fun u h2 F2 N2 l2 => ?_)
    refine kxs_callWith1 (u := u) (x := x) (i := initId) N2 (by simp) ?_
    refine spliced_cons ?_
    refine Calls.Constant_str (pos := a4) (k := 0) ?_
    refine spliced_nil ?_
    refine ⟨kxs_at N2 (by simp), ?_⟩
    have ne1 : h.objs.size ≠ x := fun z => by
      have := l1 (x, excObj C t0 none .none) (by simp)
      exact absurd (show x < h.objs.size from this) (by rw [z]; exact Nat.lt_irrefl _)
    have ne2 : u ≠ x := fun z => by
      have := l2 (x, excObj C t0 none .none) (by simp)
      exact absurd (show x < u from this) (by rw [z]; exact Nat.lt_irrefl _)
    refine kxs_call (u := u) (x := x) (C := C) (t := t0) (dv := none) (c2 := .none) (B := B) (newId := newId) (i := initId) F2 X₀ N2 FB T.exc (by simp) (.tail ne2 (.tail ne1 (.head (by simp)))) (by rw [sizeLine_eq]; exact (by decide : 1 ≤ 16777216)) (fun t' h3 F3 N3 _ => ?_)
    refine wpAt_of_wpAny (hq h3 _ t' F3 (N3 (x, excObj C t' none .none) (by simp)).1)
  · simp [interactive, hk]
end
end Er
end PySem
namespace PySem
namespace Er
open PySem.W PySem.Calls PyProof.Rows PySem.HandSPX
section
variable {prog : Program} {w : World} {A : Around} {E : Value → Shared → Prop} {K : Frag} {C : Addr} {B : String} {bmB : List Value} {hp : Heap} {g : Array GenState} {d : Drawn} {t : Nat} {os : OsState}
theorem taker_none {f : Str} (ha : findIn K (.ref C) f = some none) : takerIn K C f = some none := by
  unfold takerIn
  rw [ha]
  rfl
theorem er_set_new {x t0 : Addr} {f : Str} {v : Value} {Q : Unit → Shared → Prop} (SF : StoreFacts B bmB "object.__setattr__" "object") (X : K.In hp) (hx : hp.get? x = some (excObj C t0 none .none))
    (hs : findIn K (.ref C) "__setattr__" = some (some (.builtin "object.__setattr__"))) (ho : excOver K C bmB = true) (hh : hasDictIn K C = true) (ha : findIn K (.ref C) f = some none)
    (hq : ∀ h' tk' dx, (∀ b o, b ≠ x → hp.get? b = some o → h'.get? b = some o) → hp.objs.size ≤ dx → dx ≠ x → h'.get? x = some (excObj C t0 (some dx) .none) →
      h'.Ns1 dx (fun y => if y = f then some v else none) → Q () ⟨h', g, d, tk', os⟩) : wpAny (model prog w) A (setAttr (.ref x) f v) Q E ⟨hp, g, d, t, os⟩ := by
  obtain ⟨cd, hc, hd'⟩ := any_some hh
  have hxs : x ≠ hp.objs.size := Nat.ne_of_lt (Heap.lt_size hx)
  refine set_plain (od := none) X ⟨hx, rfl, rfl, trivial⟩ hs (osa_openX (od := none) (r := none) SF X ⟨hx, rfl, rfl, trivial⟩ ho (taker_none ha) fun b => ?_)
  refine wpAny_bind (wpAny_pure (wpAny_bind (instanceDict_exc (s := ⟨hp, g, d, t + 1, os⟩) hx (looks_clsIn X hc) hd' ?_)))
  show wpAny _ _ (Builtin.ObjectAttr.storeInDict hp.objs.size (.str f _) f v) _ _ ⟨_, g, d, _, os⟩
  refine store_in_new ?_ fun h' tk' hn' hs' => ?_
  · exact ⟨dictOf [] 0, #[], 0, (Heap.get?_update_ne _ _ _ _ hxs.symm).trans (Heap.get?_push_at rfl rfl), rfl, fun e he => absurd he (by simp), fun _ => rfl⟩
  · have hx1 : (hp.push (dictOf [] 0)).get? x = some (excObj C t0 none .none) := Heap.get?_push_of_some _ hx
    refine hq h' tk' hp.objs.size (fun b o hb ho => ?_) (Nat.le_refl _) hxs.symm ?_ hn'
    · exact (hs'.2 b (Nat.ne_of_lt (Heap.lt_size ho))).trans ((Heap.get?_update_ne _ _ _ _ hb).trans (Heap.get?_push_of_some _ ho))
    · exact (hs'.2 x hxs).trans (Heap.get?_update_self _ hx1 rfl)
theorem er_set_old {x t0 dx : Addr} {f : Str} {v : Value} {m0 : Str → Option Value} {nl : List Str} {Q : Unit → Shared → Prop} (SF : StoreFacts B bmB "object.__setattr__" "object") (X : K.In hp) (hx : hp.get? x = some (excObj C t0 (some dx) .none))
    (hns : hp.Ns1 dx m0) (hw : Within m0 nl) (hz : nl.length ≤ 1000)
    (hs : findIn K (.ref C) "__setattr__" = some (some (.builtin "object.__setattr__"))) (ho : excOver K C bmB = true) (hh : hasDictIn K C = true) (ha : findIn K (.ref C) f = some none)
    (hq : ∀ h' tk', (∀ b o, b ≠ dx → hp.get? b = some o → h'.get? b = some o) → h'.Ns1 dx (fun y => if y = f then some v else m0 y) → Q () ⟨h', g, d, tk', os⟩) :
    wpAny (model prog w) A (setAttr (.ref x) f v) Q E ⟨hp, g, d, t, os⟩ := by
  obtain ⟨cd, hc, hd'⟩ := any_some hh
  obtain ⟨oD, esD, epD, hoD, hdD, _⟩ := hns.count hw
  refine set_plain (od := some oD) X ⟨hx, rfl, rfl, hoD⟩ hs (osa_openX (od := some oD) (r := none) SF X ⟨hx, rfl, rfl, hoD⟩ ho (taker_none ha) fun b => ?_)
  refine wpAny_bind (wpAny_pure (wpAny_bind (wpAny_bind (wpAny_loadPart hx (wpAny_bind ((looks_clsIn X hc).here ?_))))))
  rw [hd']
  refine wpAny_pure (a := some dx) ?_
  show wpAny _ _ (Builtin.ObjectAttr.storeInDict dx (.str f _) f v) _ _ ⟨hp, g, d, _, os⟩
  exact OEX.store_in_old hns hw hz fun h' tk' hn hs' => hq h' tk' (fun b o hb ho => (hs'.2 b hb).trans ho) hn
end
end Er
end PySem
namespace PySem
namespace Er
open PySem.W PySem.Calls PyProof.Rows PySem.HandSPX
def iScope (fs : List Str) : Scope := { kind := .function, names := (("self" : Str), NameKind.local) :: fs.map (fun f => (f, NameKind.local)) ++ [(("__class__" : Str), NameKind.free), (("super" : Str), NameKind.globalImplicit)], isGenerator := false, isCoroutine := false, more := [] }
def iSet (f : Str) (q1 q2 q3 q4 : Pos) : Stmt := .Assign [.Attribute (.Name "self" q1) f q2] (.Name f q3) q4
def SupEv (fs : List Str) (a1 a2 a3 a4 a5 : Pos) (t : Str) : Prop := ∀ (q : Str) (L a : Addr) (cd : Value) (cc : Addr), ∃ pl : Sem Bool, eval (.Call (.Attribute (.Call (.Name "super" a1) [] [] a2) "__init__" a3) [.Constant (.str t) 0 a4] [] a5) (ksEnv q (iScope fs) L a cd cc) = (do
      let ov ← attributeBase (.Call (.Name "super" a1) [] [] a2) "__init__" (ksEnv q (iScope fs) L a cd cc) (eval (.Call (.Name "super" a1) [] [] a2) (ksEnv q (iScope fs) L a cd cc))
      standAt a3.atName
      let (f, first) ← holding [ov] (getMethod ov "__init__" pl)
      callWith a5 f first (backTo a5 (starEach [.Constant (.str t) 0 a4] (ksEnv q (iScope fs) L a cd cc))) [])
def SetEv (fs : List Str) (f : Str) (q1 q2 q3 q4 : Pos) : Prop := ∀ (q : Str) (L a : Addr) (cd : Value) (cc : Addr), swapsWith (.Name f q3) (some (.Attribute (.Name "self" q1) f q2)) q4.line (ksEnv q (iScope fs) L a cd cc) = pure false
structure IBind (fs : List Str) (params : Arguments) : Prop where
  bnd : ∀ (qual : Str) (body : List Stmt) (doc pm : Value) (an : Option Addr) (cdv ct : Value) (cc x : Addr) (vs : List Value), vs.length = fs.length → bindArgs (ksFn "__init__" qual params body (iScope fs) .none .none doc pm an cdv ct cc) ⟨.ref x :: vs, []⟩ = pure ((("self" : Str), Value.ref x) :: fs.zip vs)
  hd : ∃ ar, (params.posonlyargs ++ params.args).head? = some ar ∧ ar.arg = "self"
  sup : (iScope fs).names.lookup ("super" : Str) = some .globalImplicit
  cls : (iScope fs).names.lookup ("__class__" : Str) = some .free
  self : (iScope fs).names.lookup ("self" : Str) = some .local
  loc : ∀ f ∈ fs, (iScope fs).names.lookup f = some .local ∧ (f == ("__debug__" : Str)) = false
  ms : ∀ (x : Addr) (vs : List Value), vs.length = fs.length → ((("self" : Str), Value.ref x) :: fs.zip vs).reverse.lookup ("self" : Str) = some (.ref x)
  mf : ∀ (x : Addr) (vs : List Value) (i : Nat) (f : Str) (v : Value), vs.length = fs.length → fs[i]? = some f → vs[i]? = some v → ((("self" : Str), Value.ref x) :: fs.zip vs).reverse.lookup f = some v
  ne : fs.Nodup
inductive IForm : List Str → Arguments → List Stmt → Scope → Prop
  | no (params : Arguments) (a1 a2 a3 a4 a5 a6 : Pos) (t : Str) (he : SupEv [] a1 a2 a3 a4 a5 t) (b : IBind [] params) : IForm [] params [supCall a1 a2 a3 a4 a5 a6 t] (iScope [])
  | one (params : Arguments) (a1 a2 a3 a4 a5 a6 q1 q2 q3 q4 : Pos) (t f : Str) (he : SupEv [f] a1 a2 a3 a4 a5 t) (s1 : SetEv [f] f q1 q2 q3 q4) (b : IBind [f] params) :
      IForm [f] params [supCall a1 a2 a3 a4 a5 a6 t, iSet f q1 q2 q3 q4] (iScope [f])
  | two (params : Arguments) (a1 a2 a3 a4 a5 a6 q1 q2 q3 q4 r1 r2 r3 r4 : Pos) (t f k : Str) (he : SupEv [f, k] a1 a2 a3 a4 a5 t) (s1 : SetEv [f, k] f q1 q2 q3 q4) (s2 : SetEv [f, k] k r1 r2 r3 r4) (b : IBind [f, k] params) :
      IForm [f, k] params [supCall a1 a2 a3 a4 a5 a6 t, iSet f q1 q2 q3 q4, iSet k r1 r2 r3 r4] (iScope [f, k])
structure ErTxt (prog : Program) (K : Frag) (qual : Str) (fs : List Str) (C fI : Addr) (B newId initId : String) (bmB : List Value) : Prop where
  fn : ∃ oc od, ∃ (params : Arguments) (body : List Stmt) (scope : Scope) (doc pm : Value) (an : Option Addr) (cda cc : Addr) (ct : Value) (osl : Array (Option Value)),
    K.lookup fI = some ⟨oc, od, .func (ksFn "__init__" qual params body scope .none .none doc pm an (.ref cda) ct cc), osl⟩ ∧ codeIn K (.ref cda) qual = true ∧ IForm fs params body scope ∧ SupTxt prog K C cda cc B newId initId bmB
  sa : findIn K (.ref C) "__setattr__" = some (some (.builtin "object.__setattr__"))
  ov : excOver K C bmB = true
  hd : hasDictIn K C = true
  no : ∀ f ∈ fs, findIn K (.ref C) f = some none
  init : findIn K (.ref C) "__init__" = some (some (.ref fI))
  ty : typeIn K (.ref fI) = some (.type "function")
structure IEnd (h h' : Heap) (x C t1 : Addr) (dd : Option Addr) (fvs : List (Str × Value)) : Prop where
  keep : ∀ b o, b ≠ x → h.get? b = some o → h'.get? b = some o
  obj : h'.get? x = some (excObj C t1 dd .none)
  dict : (dd = none ∧ fvs = []) ∨ fvs ≠ [] ∧ ∃ dx, dd = some dx ∧ h.objs.size ≤ dx ∧ dx ≠ x ∧ ∃ mA, h'.Ns1 dx mA ∧ ∀ y, mA y = fvs.lookup y
section
variable {prog : Program} {w : World} {A : Around} {E : Value → Shared → Prop} {R : Result → Shared → Prop} {K : Frag} {C fI : Addr} {qual : Str} {B newId initId : String} {bmB : List Value} {hp : Heap} {g : Array GenState} {d : Drawn} {t : Nat} {os : OsState}
theorem no_cell (fs : List Str) : ∀ x ∈ (iScope fs).names, x.2 ≠ NameKind.cell := by
  intro y hy
  have hy' : y ∈ (("self" : Str), NameKind.local) :: (fs.map (fun f => (f, NameKind.local)) ++ [(("__class__" : Str), NameKind.free), (("super" : Str), NameKind.globalImplicit)]) := hy
  simp only [List.mem_cons, List.mem_append, List.mem_map, List.not_mem_nil, or_false] at hy'
  rcases hy' with rfl | ⟨f, _, rfl⟩ | rfl | rfl <;> exact fun z => by cases z
theorem hide_in {h : Heap} {x : Addr} (X : K.In h) (hx : K.lookup x = none) : K.In (hideAll h [x]) := fun a o e => hideAll_get _ (X a o e) (by
  intro z
  have z' : a = x := by simpa using z
  rw [z', hx] at e
  cases e)
theorem hide_ns {h : Heap} {x L : Addr} {m : Str → Option Value} (n : h.Ns L m) (hx : L ≠ x) : (hideAll h [x]).Ns L m := by
  obtain ⟨o, es, ep, e, r⟩ := n
  exact ⟨o, es, ep, hideAll_get _ e (by simpa using hx), r⟩
theorem er_store1 {f : Str} {q1 q2 q3 q4 : Pos} {env : Env} {L x t0 : Addr} {v : Value} {m : Str → Option Value} {rest : List Stmt} {Q : Flow → Shared → Prop} (SF : StoreFacts B bmB "object.__setattr__" "object") (X : K.In hp) (hx : hp.get? x = some (excObj C t0 none .none))
    (hs : findIn K (.ref C) "__setattr__" = some (some (.builtin "object.__setattr__"))) (ho : excOver K C bmB = true) (hh : hasDictIn K C = true) (ha : findIn K (.ref C) f = some none)
    (hk : env.scope.kind = .function) (kf : env.kindOf f = some .local) (ks : env.kindOf "self" = some .local) (hn : hp.Ns env.locals m) (hf : m f = some v) (hself : m "self" = some (.ref x)) (h4 : (f == ("__debug__" : Str)) = false)
    (sw : swapsWith (.Name f q3) (some (.Attribute (.Name "self" q1) f q2)) q4.line env = pure false)
    (hq : ∀ h' tk' dx, (∀ b o, b ≠ x → hp.get? b = some o → h'.get? b = some o) → hp.objs.size ≤ dx → dx ≠ x → h'.get? x = some (excObj C t0 (some dx) .none) →
      h'.Ns1 dx (fun y => if y = f then some v else none) → wpAny (model prog w) A (execs rest env) Q E ⟨h', g, d, tk', os⟩) : wpAny (model prog w) A (execs (iSet f q1 q2 q3 q4 :: rest) env) Q E ⟨hp, g, d, t, os⟩ := by
  refine wpAny_execs_cons (plainObj_wpAny_Assign_Attribute ?_ sw)
  refine wpAny_Name (wpAny_loadName_local hk kf hn hf ?_) h4
  refine wpAny_Name (wpAny_loadName_local hk ks hn hself ?_) (by decide)
  exact er_set_new SF X hx hs ho hh ha hq
theorem er_store2 {f : Str} {q1 q2 q3 q4 : Pos} {env : Env} {L x t0 dx : Addr} {v : Value} {m m0 : Str → Option Value} {nl : List Str} {rest : List Stmt} {Q : Flow → Shared → Prop} (SF : StoreFacts B bmB "object.__setattr__" "object") (X : K.In hp) (hx : hp.get? x = some (excObj C t0 (some dx) .none))
    (hns : hp.Ns1 dx m0) (hw : Within m0 nl) (hz : nl.length ≤ 1000)
    (hs : findIn K (.ref C) "__setattr__" = some (some (.builtin "object.__setattr__"))) (ho : excOver K C bmB = true) (hh : hasDictIn K C = true) (ha : findIn K (.ref C) f = some none)
    (hk : env.scope.kind = .function) (kf : env.kindOf f = some .local) (ks : env.kindOf "self" = some .local) (hn : hp.Ns env.locals m) (hf : m f = some v) (hself : m "self" = some (.ref x)) (h4 : (f == ("__debug__" : Str)) = false)
    (sw : swapsWith (.Name f q3) (some (.Attribute (.Name "self" q1) f q2)) q4.line env = pure false)
    (hq : ∀ h' tk', (∀ b o, b ≠ dx → hp.get? b = some o → h'.get? b = some o) → h'.Ns1 dx (fun y => if y = f then some v else m0 y) → wpAny (model prog w) A (execs rest env) Q E ⟨h', g, d, tk', os⟩) :
    wpAny (model prog w) A (execs (iSet f q1 q2 q3 q4 :: rest) env) Q E ⟨hp, g, d, t, os⟩ := by
  refine wpAny_execs_cons (plainObj_wpAny_Assign_Attribute ?_ sw)
  refine wpAny_Name (wpAny_loadName_local hk kf hn hf ?_) h4
  refine wpAny_Name (wpAny_loadName_local hk ks hn hself ?_) (by decide)
  exact er_set_old SF X hx hns hw hz hs ho hh ha hq
theorem er_init {fs : List Str} {x t0 : Addr} {vs : List Value} {mg mb : Str → Option Value} (T : ErTxt prog K qual fs C fI B newId initId bmB) (KF : KxsFacts B initId) (FB : ExcBaseFacts B newId initId bmB) (SF : StoreFacts B bmB "object.__setattr__" "object")
    (X : K.In hp) (hlim : hp.NoLimit) (hg : hp.Ns mainGlobals mg) (hb : hp.Ns builtinsNs mb) (hmb : mb "super" = bootBuiltins "super") (hx : hp.get? x = some (excObj C t0 none .none)) (hnx : K.lookup x = none) (hxg : mainGlobals ≠ x) (hxb : builtinsNs ≠ x) (hroom : A.depth < recursionLimit) (hl : vs.length = fs.length)
    (hq : ∀ h' tk' t1 dd, IEnd hp h' x C t1 dd (fs.zip vs) → R (.ok (.ret .none)) ⟨h', g, d, tk', os⟩) :
    codeAny (model prog w) A (.call (.ref fI) ⟨.ref x :: vs, []⟩) R ⟨hp, g, d, t, os⟩ := by
  obtain ⟨oc, od, params, body, scope, doc, pm, an, cda, cc, ct, osl, ho, hcd, form, S⟩ := T.fn
  have hNo := T.no
  have hsa := T.sa
  have hov := T.ov
  have hhd := T.hd
  have hGl : ∀ (h1 : Heap) (m : Str → Option Value), h1.Ns hp.objs.size m → (∀ b o, hp.get? b = some o → h1.get? b = some o) → Fr (hideAll hp [x]) hp.objs.size h1 m := fun h1 m hns k => ⟨hns, fun b o e => k b o (of_hideAll _ e), Nat.le_of_eq (hideAll_size _ _)⟩
  have hNw : ∀ (h1 : Heap), (∀ b o, hp.get? b = some o → h1.get? b = some o) → News (hideAll hp [x]) hp.objs.size h1 [(x, excObj C t0 none .none)] := fun h1 k p hp' => by
    rcases List.mem_singleton.mp hp' with rfl
    exact ⟨k _ _ hx, Nat.ne_of_lt (Heap.lt_size hx), hideAll_none _ (by simp)⟩
  have nsOf : ∀ {m : Str → Option Value} {h1 h2 : Heap} {y : Addr}, h1.Ns hp.objs.size m → (∀ b o, b ≠ y → h1.get? b = some o → h2.get? b = some o) → hp.objs.size ≠ y → h2.Ns hp.objs.size m := fun {m h1 h2 y} n k ny => by
    obtain ⟨o, es, ep, e, r⟩ := n
    exact ⟨o, es, ep, k _ _ ny e, r⟩
  have nx : hp.objs.size ≠ x := Nat.ne_of_gt (Heap.lt_size hx)
  have knx : ∀ {h1 h2 : Heap}, K.In h1 → (∀ b o, b ≠ x → h1.get? b = some o → h2.get? b = some o) → K.In h2 := fun {h1 h2} X1 k a o e => k a o (fun z => by rw [z, hnx] at e; cases e) (X1 a o e)
  have enter : ∀ (body : List Stmt) (b : IBind fs params) (ho' : K.lookup fI = some ⟨oc, od, .func (ksFn "__init__" qual params body (iScope fs) .none .none doc pm an (.ref cda) ct cc), osl⟩),
      (∀ h1 tk1, h1.Ns hp.objs.size (fun y => ((("self" : Str), Value.ref x) :: fs.zip vs).reverse.lookup y) → (∀ b o, hp.get? b = some o → h1.get? b = some o) →
        _root_.PySem.wpAt (model prog w) (A.deeper (ksEnv qual (iScope fs) hp.objs.size fI (.ref cda) cc)) (.func body (ksEnv qual (iScope fs) hp.objs.size fI (.ref cda) cc)) (execs body (ksEnv qual (iScope fs) hp.objs.size fI (.ref cda) cc))
          (fun fl s' => R (.ok (.ret (match fl with | .ret v => v | _ => .none))) s') (fun e s' => wpAny (model prog w) (A.deeper (ksEnv qual (iScope fs) hp.objs.size fI (.ref cda) cc)) (leaving (ksEnv qual (iScope fs) hp.objs.size fI (.ref cda) cc) e) (fun _ s'' => R (.error e) s'') (fun e' s'' => R (.error e') s'') s') ⟨h1, g, d, tk1, os⟩) →
      codeAny (model prog w) A (.call (.ref fI) ⟨.ref x :: vs, []⟩) R ⟨hp, g, d, t, os⟩ := fun body b ho' z => by
    refine ks_codeAny_call_defAt (fd := ksFn "__init__" qual params body (iScope fs) .none .none doc pm an (.ref cda) ct cc) (body := body) (binds := (("self" : Str), Value.ref x) :: fs.zip vs) hroom (X _ _ ho') rfl hlim (codeRec_of X hcd) rfl (BindsTo.of_eq (b.bnd _ _ _ _ _ _ _ _ _ _ hl)) (no_cell fs) (fun y hy => ?_) (fun h1 hns k => z h1 _ hns k) rfl rfl rfl
    rcases List.mem_cons.mp hy with rfl | hy
    · exact b.self
    · exact (b.loc y.1 (List.of_mem_zip hy).1).1
  cases form with
  | no params a1 a2 a3 a4 a5 a6 t he b =>
    obtain ⟨pl, he⟩ := he qual hp.objs.size fI (.ref cda) cc
    obtain ⟨ar, har, hae⟩ := b.hd
    refine enter _ b ho fun h1 tk1 hns k => ?_
    refine er_super (q := qual) (scope := iScope []) (rest := []) S KF FB (hGl _ _ hns k) (hide_in X hnx) (hNw _ k) (hide_ns hg hxg) (hide_ns hb hxb) hmb ho har (by rw [hae]; exact b.ms x vs hl) b.sup he b.cls (by rw [hae]; exact b.self) rfl (fun h' tk' t' F' hx' => ?_)
    refine wpAny_execs_nil (hq h' tk' t' none ⟨fun b o hb e => F'.keep b o (hideAll_get _ e (by simpa using hb)), hx', .inl ⟨rfl, by simp⟩⟩)
  | one params a1 a2 a3 a4 a5 a6 q1 q2 q3 q4 t f he s1 b =>
    obtain ⟨pl, he⟩ := he qual hp.objs.size fI (.ref cda) cc
    obtain ⟨ar, har, hae⟩ := b.hd
    obtain ⟨v, rfl⟩ : ∃ v, vs = [v] := by
      match vs, hl with
      | [v], _ => exact ⟨v, rfl⟩
    refine enter _ b ho fun h1 tk1 hns k => ?_
    refine er_super (q := qual) (scope := iScope [f]) (rest := [iSet f q1 q2 q3 q4]) S KF FB (hGl _ _ hns k) (hide_in X hnx) (hNw _ k) (hide_ns hg hxg) (hide_ns hb hxb) hmb ho har (by rw [hae]; exact b.ms x [v] hl) b.sup he b.cls (by rw [hae]; exact b.self) rfl (fun h' tk' t' F' hx' => ?_)
    have k' : ∀ b o, b ≠ x → hp.get? b = some o → h'.get? b = some o := fun b o hb e => F'.keep b o (hideAll_get _ e (by simpa using hb))
    refine er_store1 (L := hp.objs.size) (v := v) SF (knx X k') hx' hsa hov hhd (hNo f (by simp)) rfl (b.loc f (by simp)).1 b.self F'.ns (b.mf x [v] 0 f v hl rfl rfl) (b.ms x [v] hl) (b.loc f (by simp)).2 (s1 _ _ _ _ _) (fun h2 tk2 dx k2 big ne hx2 hn2 => ?_)
    refine wpAny_execs_nil (hq h2 tk2 t' (some dx) ⟨fun b o hb e => k2 b o hb (k' b o hb e), hx2, .inr ⟨by simp, dx, rfl, Nat.le_trans (Nat.le_of_lt F'.ns.lt) big, ne, _, hn2, fun y => ?_⟩⟩)
    show (if y = f then some v else none) = ([(f, v)] : List (Str × Value)).lookup y
    by_cases e : y = f
    · subst e
      simp [List.lookup]
    · rw [if_neg e]
      simp [List.lookup, (by simpa using e : (y == f) = false)]
  | two params a1 a2 a3 a4 a5 a6 q1 q2 q3 q4 r1 r2 r3 r4 t f kk he s1 s2 b =>
    obtain ⟨pl, he⟩ := he qual hp.objs.size fI (.ref cda) cc
    obtain ⟨ar, har, hae⟩ := b.hd
    obtain ⟨v, u, rfl⟩ : ∃ v u, vs = [v, u] := by
      match vs, hl with
      | [v, u], _ => exact ⟨v, u, rfl⟩
    refine enter _ b ho fun h1 tk1 hns k => ?_
    refine er_super (q := qual) (scope := iScope [f, kk]) (rest := [iSet f q1 q2 q3 q4, iSet kk r1 r2 r3 r4]) S KF FB (hGl _ _ hns k) (hide_in X hnx) (hNw _ k) (hide_ns hg hxg) (hide_ns hb hxb) hmb ho har (by rw [hae]; exact b.ms x [v, u] hl) b.sup he b.cls (by rw [hae]; exact b.self) rfl (fun h' tk' t' F' hx' => ?_)
    have k' : ∀ b o, b ≠ x → hp.get? b = some o → h'.get? b = some o := fun b o hb e => F'.keep b o (hideAll_get _ e (by simpa using hb))
    have hX' := knx X k'
    refine er_store1 (L := hp.objs.size) (v := v) SF hX' hx' hsa hov hhd (hNo f (by simp)) rfl (b.loc f (by simp)).1 b.self F'.ns (b.mf x [v, u] 0 f v hl rfl rfl) (b.ms x [v, u] hl) (b.loc f (by simp)).2 (s1 _ _ _ _ _) (fun h2 tk2 dx k2 big ne hx2 hn2 => ?_)
    have hX2 := knx hX' k2
    have hF2 := nsOf F'.ns k2 nx
    have dL : hp.objs.size ≠ dx := Nat.ne_of_lt (Nat.lt_of_lt_of_le F'.ns.lt big)
    refine er_store2 (L := hp.objs.size) (v := u) (nl := [f]) SF hX2 hx2 hn2 (fun y hy => ?_) (by simp) hsa hov hhd (hNo kk (by simp)) rfl (b.loc kk (by simp)).1 b.self hF2 (b.mf x [v, u] 1 kk u hl rfl rfl) (b.ms x [v, u] hl) (b.loc kk (by simp)).2 (s2 _ _ _ _ _) (fun h3 tk3 k3 hn3 => ?_)
    · by_cases e : y = f
      · simp [e]
      · exact absurd (if_neg e) hy
    refine wpAny_execs_nil (hq h3 tk3 t' (some dx) ⟨fun b o hb e => k3 b o (fun z => ?_) (k2 b o hb (k' b o hb e)), k3 _ _ ne.symm hx2, .inr ⟨by simp, dx, rfl, Nat.le_trans (Nat.le_of_lt F'.ns.lt) big, ne, _, hn3, fun y => ?_⟩⟩)
    · subst z
      exact absurd (Nat.lt_of_lt_of_le (Heap.lt_size (k' _ _ hb e)) big) (Nat.lt_irrefl _)
    show (if y = kk then some u else if y = f then some v else none) = ([(f, v), (kk, u)] : List (Str × Value)).lookup y
    have nfk : f ≠ kk := by
      have := b.ne
      simpa using this
    by_cases e : y = f
    · subst e
      simp [List.lookup, nfk]
    · have e' : (y == f) = false := by simpa using e
      by_cases e2 : y = kk
      · subst e2
        simp [List.lookup, e']
      · rw [if_neg e2, if_neg e]
        simp [List.lookup, e', (by simpa using e2 : (y == kk) = false)]
end
end Er
end PySem
namespace PySem
namespace Er
open PySem.W PySem.Calls PyProof.Rows PySem.HandSPX
structure EMade (h h' : Heap) (e C t1 : Addr) (dd : Option Addr) (fvs : List (Str × Value)) : Prop where
  keep : ∀ b o, h.get? b = some o → h'.get? b = some o
  new : h.objs.size ≤ e
  obj : h'.get? e = some (excObj C t1 dd .none)
  dict : (dd = none ∧ fvs = []) ∨ fvs ≠ [] ∧ ∃ dx, dd = some dx ∧ h.objs.size ≤ dx ∧ dx ≠ e ∧ ∃ mA, h'.Ns1 dx mA ∧ ∀ y, mA y = fvs.lookup y
section
variable {prog : Program} {w : World} {A : Around} {E : Value → Shared → Prop} {R : Result → Shared → Prop} {K : Frag} {C fI : Addr} {qual : Str} {B newId initId : String} {bmB : List Value} {hp : Heap} {g : Array GenState} {d : Drawn} {t : Nat} {os : OsState}
theorem er_made {fs : List Str} {vs : List Value} {mg mb : Str → Option Value} (T : ErTxt prog K qual fs C fI B newId initId bmB) (KF : KxsFacts B initId) (FB : ExcBaseFacts B newId initId bmB) (SF : StoreFacts B bmB "object.__setattr__" "object") (hex : excInitIn K C bmB newId = true)
    (X : K.In hp) (hlim : hp.NoLimit) (hg : hp.Ns mainGlobals mg) (hb : hp.Ns builtinsNs mb) (hmb : mb "super" = bootBuiltins "super") (hroom : A.depth + 1 < recursionLimit) (hl : vs.length = fs.length) (hz : vs.length ≤ sizeLine)
    (hq : ∀ h' tk' e t1 dd, EMade hp h' e C t1 dd (fs.zip vs) → R (.ok (.ret (.ref e))) ⟨h', g, d, tk', os⟩) :
    codeAny (model prog w) A (.call (.ref C) ⟨vs, []⟩) R ⟨hp, g, d, t, os⟩ := by
  obtain ⟨nm, N', qn, bs, bm, hdct, sn, sub, ab, col, dd, k0, k1, k2, k3, k5, hC, hT⟩ := excInit_of X hex
  have k : ∀ b o, hp.get? b = some o → ((hp.push (kdv_tup vs)).push (excO C hp.objs.size)).get? b = some o := fun b o e => Heap.get?_push_of_some _ (Heap.get?_push_of_some _ e)
  have hget : ((hp.push (kdv_tup vs)).push (excO C hp.objs.size)).get? (hp.objs.size + 1) = some (excO C hp.objs.size) := by heap_get
  have big : ∀ {b : Addr} {o : Obj}, hp.get? b = some o → b ≠ hp.objs.size + 1 := fun {b o} e => Nat.ne_of_lt (Nat.lt_succ_of_lt (Heap.lt_size e))
  have hnx : K.lookup (hp.objs.size + 1) = none := by
    cases e : K.lookup (hp.objs.size + 1) with
    | none => rfl
    | some o => exact absurd rfl (big (X _ _ e))
  have gne : mainGlobals ≠ hp.objs.size + 1 := by
    obtain ⟨o, _, _, e, _⟩ := hg
    exact big e
  have bne : builtinsNs ≠ hp.objs.size + 1 := by
    obtain ⟨o, _, _, e, _⟩ := hb
    exact big e
  refine call_own FB hT hC (looks_findIn X T.init) (fun self => bind_fn X self T.ty) hz ?_
  refine er_init (hp := (hp.push (kdv_tup vs)).push (excO C hp.objs.size)) (x := hp.objs.size + 1) (t0 := hp.objs.size) T KF FB SF (X.keeps k) (hlim.keeps k) (hg.keeps k) (hb.keeps k) hmb hget hnx gne bne ?_ hl fun h' tk' t1 dd ⟨k', hx, hd⟩ => ?_
  · show A.depth + 1 < recursionLimit
    exact hroom
  · have old : ∀ b o, hp.get? b = some o → h'.get? b = some o := fun b o e => k' b o (big e) (k b o e)
    refine ⟨rfl, hq h' tk' (hp.objs.size + 1) t1 dd ⟨old, Nat.le_succ _, hx, ?_⟩⟩
    rcases hd with hd | ⟨e0, dx, e1, e2, e3⟩
    · exact .inl hd
    · refine .inr ⟨e0, dx, e1, ?_, e3⟩
      have z : hp.objs.size + 1 + 1 ≤ dx := by
        have q := e2
        rw [Heap.size_push, Heap.size_push] at q
        exact q
      exact Nat.le_trans (Nat.le_trans (Nat.le_succ _) (Nat.le_succ _)) z
end
end Er
end PySem
namespace L2
open PySem PySem.Spec PyProof.Rows
theorem relO_zip : ∀ {fs : List Str} {vs : List V} {us : List Value}, Vals vs us → ∀ f, RelO ((fs.zip vs).lookup f) ((fs.zip us).lookup f)
  | [], _, _, _, f => by simp [RelO]
  | _ :: _, _, _, .nil, f => by simp [RelO]
  | a :: fs, _, _, .cons r t, f => by
    simp only [List.zip_cons_cons, List.lookup_cons]
    cases e : f == a with
    | true => exact r
    | false => exact relO_zip t f
structure ErC (prog : Program) (K : PySem.W.Frag) (qual : Str) (fs : List Str) (C : Addr) : Prop where
  ex : ∃ fI B newId initId bmB, PySem.Er.ErTxt prog K qual fs C fI B newId initId bmB ∧ PySem.W.KxsFacts B initId ∧ ExcBaseFacts B newId initId bmB ∧ StoreFacts B bmB "object.__setattr__" "object" ∧ PySem.W.excInitIn K C bmB newId = true
  exC : PySem.W.subIn K (.ref C) (.type "BaseException") = some true
  tyC : PySem.W.typeIn K (.ref C) = some (.type "type")
  kC : PySem.W.keepIn K (.ref C) = true
section
variable {X : Cx} {C : Addr} {qual : Str} {fs : List Str}
def tMkEr (C : Addr) (fs : List Str) (ta : TA) : St → Hp → XK → Prop := fun σ H Q => ta σ H fun vs H1 => vs.length = fs.length ∧ vs.length ≤ 1000 ∧ (fs = [] → Q (.ref C) none H1) ∧ (fs ≠ [] → ∀ d, H1 d = none → Q (.ref C) (some d) (upd H1 d (.xd (fs.zip vs))))
theorem er_run {pins : List (Addr × Obj)} {σ : St} {H1 : Hp} {s1 : Shared} {vs : List V} {us : List Value} {Q : XK} {k : Nat} (T : ErC X.prog X.K qual fs C) (hr : Room k X.A) (I1 : Inv X pins σ H1 s1) (r1 : Vals vs us) (hl : vs.length = fs.length) (hz : vs.length ≤ 1000)
    (q0 : fs = [] → Q (.ref C) none H1) (q1 : fs ≠ [] → ∀ d, H1 d = none → Q (.ref C) (some d) (upd H1 d (.xd (fs.zip vs)))) : wpAny (model X.prog X.w) X.A (call (.ref C) us) (MkP X pins σ Q) X.xe s1 := by
  obtain ⟨fI, B, newId, initId, bmB, T1, KF, FB, SF, hex⟩ := T.ex
  have hlim := I1.nolimit
  have hK := I1.kIn
  have hm := I1.mod
  obtain ⟨mb, hb, hbt⟩ := hm.blt
  have hg := hm.glob.keeps I1.bk
  have hb' := hb.keeps I1.bk
  have lu : us.length = fs.length := r1.length.symm.trans hl
  have zu : us.length ≤ sizeLine := by
    rw [← r1.length, sizeLine_eq]
    omega
  obtain ⟨hp, g, dr, tk, os⟩ := s1
  refine wpAny_call (PySem.Er.er_made T1 KF FB SF hex hK hlim hg hb' (hbt "super" (by decide)) (by have := hr.dp; omega) lu zu fun h' tk' e t1 dd M => ?_)
  show MkP X pins σ Q (.ref e) ⟨h', g, dr, tk', os⟩
  obtain ⟨G', g1, g2⟩ := restrict h' fun b => decide (b ≠ e)
  have gk : ∀ b, b ≠ e → G'.get? b = h'.get? b := fun b hb => g1 b (decide_eq_true hb)
  have ge : G'.get? e = none := g2 e (by simp)
  have old : ∀ b o, hp.get? b = some o → G'.get? b = some o := fun b o q => (gk b (Nat.ne_of_lt (Nat.lt_of_lt_of_le (Heap.lt_size q) M.new))).trans (M.keep b o q)
  have back : ∀ b o, G'.get? b = some o → h'.get? b = some o := fun b o q => by
    by_cases hb : b = e
    · rw [hb, ge] at q
      cases q
    · exact (gk b hb).symm.trans q
  rcases M.dict with ⟨ed, ef⟩ | ⟨e0, dx, ed, big, ne, mA, hns, hmA⟩
  · subst ed
    have f0 : fs = [] := by
      cases fs with
      | nil => rfl
      | cons a l =>
        cases us with
        | nil => cases lu
        | cons u us => cases ef
    have J : Inv X pins σ H1 ⟨G', g, dr, tk', os⟩ := I1.kept (t' := tk') old
    exact ⟨e, _, _, ⟨G', g, dr, tk', os⟩, _, .ref C, none, rfl, J, back, ge, M.obj, ⟨rfl, rfl⟩, rfl, rfl, I1.hok.fresh M.new, rfl, I1.bare, raises_own T.exC T.tyC, q0 f0⟩
  · subst ed
    have f0 : fs ≠ [] := fun z => e0 (by rw [z]; rfl)
    have ob : ObjOk X.prog X.w (upd H1 dx (.xd (fs.zip vs))) G' dx (.xd (fs.zip vs)) := ⟨mA, hns.at (fun o q => (gk dx ne).trans q), fun f => by rw [hmA f]; exact relO_zip r1 f⟩
    have J : Inv X pins σ (upd H1 dx (.xd (fs.zip vs))) ⟨G', g, dr, tk', os⟩ := I1.laid (t' := tk') old big ob
    refine ⟨e, _, _, ⟨G', g, dr, tk', os⟩, _, .ref C, some dx, rfl, J, back, ge, M.obj, ⟨rfl, rfl⟩, rfl, rfl, ?_, rfl, I1.bare, raises_own T.exC T.tyC, q1 f0 dx (I1.hok.fresh big)⟩
    rw [upd_ne (Ne.symm ne)]
    exact I1.hok.fresh M.new
end
end L2
namespace L2
open PySem PySem.Spec PyProof.Rows
section
variable {X : Cx} {C : Addr} {qual : Str} {fs : List Str} {x : Str} {p pos pos2 : Pos} {e : Expr} {es : List Expr} {ta : TA} {k : Nat} {W : WX}
theorem pmk_er (T : ErC X.prog X.K qual fs C) (hr : Room k X.A) (hm : X.mg x = some (.ref C)) (ha : PA X (e :: es) ta) (hg : Gl X x := by rfl) (hdb : (x == ("__debug__" : Str)) = false := by decide)
    (he : starEach (e :: es) X.env = (false, eval e X.env) :: starEach es X.env := by rfl) (hpl : (backTo pos (starEach es X.env)).any (·.1) = false := by rfl) : PMk X (.Call (.Name x p) (e :: es) [] pos) (tMkEr C fs ta) := by
  intro pins s σ H Q I h
  refine wpAny_Call_Name_kw (ld_glob I hg hm ?_ hdb)
  refine PySem.W.callWith_K (h₀ := X.base) I.ok.mod.kin T.kC (thn (ha.run pos pins s σ H _ I h) fun us s1 hh => ?_) he hpl
  obtain ⟨vs, H1, I1, r1, hl, hz, q0, q1⟩ := hh
  exact ⟨I1.kIn, er_run T hr I1 r1 hl hz q0 q1⟩
def tRaiseEr (C : Addr) (fs : List Str) (W : WX) (ta : TA) : TS := fun _ σ H => tMkEr C fs ta σ H fun cls d H' => W cls d σ H'
theorem ps_raiseEr (hc : X.calm = true) (T : ErC X.prog X.K qual fs C) (hr : Room k X.A) (tk : Takes X W) (hm : X.mg x = some (.ref C)) (ha : PA X (e :: es) ta) (hg : Gl X x := by rfl) (hdb : (x == ("__debug__" : Str)) = false := by decide)
    (he : starEach (e :: es) X.env = (false, eval e X.env) :: starEach es X.env := by rfl) (hpl : (backTo pos (starEach es X.env)).any (·.1) = false := by rfl) :
    PS X (.Raise (some (.Call (.Name x p) (e :: es) [] pos)) none pos2) (tRaiseEr C fs W ta) := ps_raise hc tk (pmk_er T hr hm ha hg hdb he hpl)
end
end L2
namespace Wm
open PySem L2
def pk (c : Addr) (a r g m t : Int) : List (Key × V) := [(.inr "cells", .ref c), (.inr "at", .int a), (.inr "rest", .int r), (.inr "digits", .int g), (.inr "mix", .int m), (.inr "turn", .int t)]
theorem pk_get_cells (c : Addr) (a r g m t : Int) : valV (pk c a r g m t) (.inr "cells") = some (.ref c) := by rfl
theorem pk_get_at (c : Addr) (a r g m t : Int) : valV (pk c a r g m t) (.inr "at") = some (.int a) := by rfl
theorem pk_get_rest (c : Addr) (a r g m t : Int) : valV (pk c a r g m t) (.inr "rest") = some (.int r) := by rfl
theorem pk_get_digits (c : Addr) (a r g m t : Int) : valV (pk c a r g m t) (.inr "digits") = some (.int g) := by rfl
theorem pk_get_mix (c : Addr) (a r g m t : Int) : valV (pk c a r g m t) (.inr "mix") = some (.int m) := by rfl
theorem pk_get_turn (c : Addr) (a r g m t : Int) : valV (pk c a r g m t) (.inr "turn") = some (.int t) := by rfl
theorem pk_put_at (c : Addr) (a r g m t n : Int) : putK (pk c a r g m t) (.inr "at") (.int n) = pk c n r g m t := by rfl
theorem pk_put_rest (c : Addr) (a r g m t n : Int) : putK (pk c a r g m t) (.inr "rest") (.int n) = pk c a n g m t := by rfl
theorem pk_put_digits (c : Addr) (a r g m t n : Int) : putK (pk c a r g m t) (.inr "digits") (.int n) = pk c a r n m t := by rfl
theorem pk_put_mix (c : Addr) (a r g m t n : Int) : putK (pk c a r g m t) (.inr "mix") (.int n) = pk c a r g n t := by rfl
theorem pk_put_turn (c : Addr) (a r g m t n : Int) : putK (pk c a r g m t) (.inr "turn") (.int n) = pk c a r g m n := by rfl
structure PenAt (H : Hp) (p c : Addr) : Prop where
  ex : ∃ (ns : List Int) (a r g m t : Int), H p = some (.dK (pk c a r g m t)) ∧ H c = some (.lst (ns.map V.int)) ∧ 0 ≤ a ∧ 0 ≤ m ∧ m < 2147483648
structure PenStep (p c : Addr) (H H' : Hp) : Prop where
  pen : PenAt H' p c
  keep : ∀ b o, b ≠ p → H b = some o → H' b = some o
theorem PenStep.refl {p c : Addr} {H : Hp} (h : PenAt H p c) : PenStep p c H H := ⟨h, fun _ _ _ e => e⟩
theorem PenStep.trans {p c : Addr} {H H1 H2 : Hp} (a : PenStep p c H H1) (b : PenStep p c H1 H2) : PenStep p c H H2 := ⟨b.pen, fun c o n e => b.keep c o n (a.keep c o n e)⟩
theorem PenAt.same {p c : Addr} {H H' : Hp} (h : PenAt H p c) (s : Same H H') : PenAt H' p c := by
  obtain ⟨ns, a, r, g, m, t, h1, h2, h3⟩ := h.ex
  exact ⟨ns, a, r, g, m, t, s _ _ h1, s _ _ h2, h3⟩
theorem PenAt.step {p c : Addr} {H H' : Hp} (h : PenAt H p c) (s : Same H H') : PenStep p c H H' := ⟨h.same s, fun b o _ e => s b o e⟩
theorem PenStep.same {p c : Addr} {H H1 H2 : Hp} (a : PenStep p c H H1) (s : Same H1 H2) : PenStep p c H H2 := ⟨a.pen.same s, fun b o n e => s b o (a.keep b o n e)⟩
theorem PenAt.some_p {H : Hp} {p c : Addr} (h : PenAt H p c) : ∃ o, H p = some o := by
  obtain ⟨ns, a, r, g, m, t, h1, h2, h3⟩ := h.ex
  exact ⟨_, h1⟩
theorem PenAt.some_c {H : Hp} {p c : Addr} (h : PenAt H p c) : ∃ o, H c = some o := by
  obtain ⟨ns, a, r, g, m, t, h1, h2, h3⟩ := h.ex
  exact ⟨_, h2⟩
theorem PenAt.ne_new {H : Hp} {p c q : Addr} (h : PenAt H p c) (n : H q = none) : p ≠ q ∧ c ≠ q := by
  obtain ⟨o, e⟩ := h.some_p
  obtain ⟨u, e'⟩ := h.some_c
  exact ⟨ne_of_none e n, ne_of_none e' n⟩
theorem PenAt.put {H : Hp} {p c q : Addr} {o : HO} (h : PenAt H p c) (n : p ≠ q ∧ c ≠ q) : PenAt (upd H q o) p c := by
  obtain ⟨ns, a, r, g, m, t, h1, h2, h3⟩ := h.ex
  exact ⟨ns, a, r, g, m, t, by rw [upd_ne n.1]; exact h1, by rw [upd_ne n.2]; exact h2, h3⟩
theorem PenStep.put {p c q : Addr} {o : HO} {H H1 : Hp} (a : PenStep p c H H1) (h : PenAt H p c) (n : H q = none) : PenStep p c H (upd H1 q o) :=
  ⟨a.pen.put (h.ne_new n), fun b u nb e => by rw [upd_ne (ne_of_none e n)]; exact a.keep b u nb e⟩
theorem dg {H : Hp} {p : Addr} {kvs : List (Key × V)} {x : Str} {v : V} (h : H p = some (.dK kvs)) (e : valV kvs (.inr x) = some v) : DGet H p (.str x) (some v) := e ▸ DGet.k (k := .inr x) h
theorem dp {H : Hp} {p : Addr} {kvs kvs' : List (Key × V)} {x : Str} {v : V} (h : H p = some (.dK kvs)) (e : putK kvs (.inr x) v = kvs') (hl : kvs.length < sizeLine) : DPut H p (.str x) v (upd H p (.dK kvs')) := e ▸ DPut.k (k := .inr x) h hl
theorem dpu {H : Hp} {p : Addr} {kvs kvs' : List (Key × V)} {x : Str} {v : V} (e : putK kvs (.inr x) v = kvs') (hl : kvs.length < sizeLine) : DPut (upd H p (.dK kvs)) p (.str x) v (upd H p (.dK kvs')) := by
  have z := dp (H := upd H p (.dK kvs)) (x := x) (v := v) upd_same e hl
  rwa [upd_upd] at z
theorem same_new {H : Hp} {p : Addr} {o : HO} (h : H p = none) : Same H (upd H p o) := fun b u e => by rw [upd_ne (ne_of_none e h)]; exact e
def spTake : Sp := fun vs H Q _ => ∃ (p c : Addr) (b : Int), vs = [.ref p, .int b] ∧ PenAt H p c ∧ 0 < b ∧ b < 2 ^ 100 ∧ ∀ r H', 0 ≤ r → r < b → PenStep p c H H' → Q (.int r) H'
def spPen (K : PySem.W.Frag) : Sp := fun vs H Q _ => ∃ (a : Addr) (ns : List Int), vs = [.ref a] ∧ SqL K H a (ns.map V.int) ∧ ∀ p c H', PenAt H' p c → Same H H' → H p = none → Q (.ref p) H'
theorem r_take {H : Hp} {Q : VK} {E : XK} {p c : Addr} {b : Int} (h : PenAt H p c) (hb : 0 < b) (hb2 : b < 2 ^ 100) (k : ∀ r H', 0 ≤ r → r < b → PenStep p c H H' → Q (.int r) H') : spTake ([.ref p, .int b] ++ []) H Q E := ⟨p, c, b, rfl, h, hb, hb2, k⟩
theorem sl6 (c : Addr) (a r g m t : Int) : (pk c a r g m t).length < sizeLine := by
  rw [sizeLine_eq]
  exact (by decide : 6 < 16777216)
theorem ite_and {c : Bool} {A B : Prop} (h1 : c = true → A) (h2 : c = false → B) : if c = true then A else B := by
  cases c
  · exact iteF (h2 rfl)
  · exact iteT (h1 rfl)
end Wm
namespace Wm
open PySem L2
def rLen (K : PySem.W.Frag) : List V → Hp → VK → Prop := fun xs H Q => ∃ p ys, xs = [.ref p] ∧ (SqL K H p ys ∨ SqT K H p ys) ∧ Q (.int ys.length) H
def rLenS : List V → Hp → VK → Prop := fun xs H Q => ∃ z, xs = [.str z] ∧ z.length ≤ sizeLine ∧ Q (.int z.length) H
def rInt1 : List V → Hp → VK → Prop := fun xs H Q => (∃ i, xs = [.int i] ∧ Q (.int i) H) ∨ ∃ k, xs = [.bl k] ∧ Q (.int (if k then 1 else 0)) H
def rListOf (K : PySem.W.Frag) : List V → Hp → VK → Prop := fun xs H Q => ∃ p ys, xs = [.ref p] ∧ (SqL K H p ys ∨ SqT K H p ys) ∧ ∀ l, H l = none → Q (.ref l) (upd H l (.lst ys))
def rTupOf (K : PySem.W.Frag) : List V → Hp → VK → Prop := fun xs H Q => ∃ p ys, xs = [.ref p] ∧ ((SqL K H p ys ∧ ∀ l, H l = none → Q (.ref l) (upd H l (.tup ys))) ∨ (SqT K H p ys ∧ Q (.ref p) H))
section
variable {X : Cx}
theorem c_len : CallR X (.builtin "len") (rLen X.K) := call_len_seq
theorem c_lenS : CallR X (.builtin "len") rLenS := call_len_str
theorem c_int1 : CallR X (.type "int") rInt1 := call_int1
theorem c_list : CallR X (.type "list") (rListOf X.K) := call_list_of
theorem c_tuple : CallR X (.type "tuple") (rTupOf X.K) := call_tuple_of
end
section
variable {D : Ends} {σ : St} {H : Hp} {Q : VK} {t u : TS} {te ta tb : TE} {g : TG} {x y v : V} {K : PySem.W.Frag}
theorem r_seq (h : t { D with nx := u D } σ H) : tSeq t u D σ H := h
theorem r_next (h : D.nx σ H) : tNext D σ H := h
theorem r_asg (h : te σ H fun x H1 => g x σ H1 D.nx) : tAsg te g D σ H := h
theorem r_gname {i : Nat} {σ' : St} {R : St → Hp → Prop} (e : σ.set i (some v) = σ') (h : R σ' H) : gName i v σ H R := by
  unfold gName
  rw [e]
  exact h
theorem r_ret (h : te σ H D.rt) : tRet te D σ H := h
theorem r_drop (h : te σ H fun _ H1 => D.nx σ H1) : tDrop te D σ H := h
theorem r_ifs {c : TT} (h : c σ H fun b H1 => if b = true then t D σ H1 else u D σ H1) : tIfS c t u D σ H := h
theorem r_var {i : Nat} (h : σ[i]? = some (some v)) (q : Q v H) : tVar i σ H Q := ⟨v, h, q⟩
theorem r_c (q : Q v H) : tC v σ H Q := q
theorem r_op {r : R2} (h : ta σ H fun x H1 => tb σ H1 fun y H2 => r x y H2 Q) : tOp r ta tb σ H Q := h
theorem r_i0 {f : Int → Int → V} {i j : Int} (h : Q (f i j) H) : rI0 f (.int i) (.int j) H Q := ⟨i, j, rfl, rfl, h⟩
theorem r_i {C : Int → Int → Prop} {f : Int → Int → V} {i j : Int} (c : C i j) (h : Q (f i j) H) : rI C f (.int i) (.int j) H Q := ⟨i, j, rfl, rfl, c, h⟩
theorem r_eqi {i j : Int} (h : Q (.bl (decide (i = j))) H) : rEq (.int i) (.int j) H Q := ⟨rfl, by rwa [show decide (V.int i = V.int j) = decide (i = j) from by simp]⟩
theorem r_eqs {i j : Str} (h : Q (.bl (decide (i = j))) H) : rEq (.str i) (.str j) H Q := ⟨rfl, by rwa [show decide (V.str i = V.str j) = decide (i = j) from by simp]⟩
theorem r_eqb {i j : Bool} (h : Q (.bl (decide (i = j))) H) : rEq (.bl i) (.bl j) H Q := ⟨rfl, by rwa [show decide (V.bl i = V.bl j) = decide (i = j) from by simp]⟩
theorem r_nei {i j : Int} (h : Q (.bl (!decide (i = j))) H) : rNe (.int i) (.int j) H Q := ⟨rfl, by rwa [show decide (V.int i = V.int j) = decide (i = j) from by simp]⟩
theorem r_nes {i j : Str} (h : Q (.bl (!decide (i = j))) H) : rNe (.str i) (.str j) H Q := ⟨rfl, by rwa [show decide (V.str i = V.str j) = decide (i = j) from by simp]⟩
theorem r_neb {i j : Bool} (h : Q (.bl (!decide (i = j))) H) : rNe (.bl i) (.bl j) H Q := ⟨rfl, by rwa [show decide (V.bl i = V.bl j) = decide (i = j) from by simp]⟩
theorem r_test {R : Bool → Hp → Prop} (h : te σ H fun x H' => ∃ k, x = .bl k ∧ R k H') : tTest te σ H R := h
theorem r_tb {R : Bool → Hp → Prop} (h : te σ H fun x H' => ∃ k, x = .bl k ∧ R k H') : tB te σ H R := h
theorem r_bl {b : Bool} {R : Bool → Prop} (h : R b) : ∃ k, V.bl b = V.bl k ∧ R k := ⟨b, rfl, h⟩
theorem r_and {p q : TT} {R : Bool → Hp → Prop} (h : p σ H fun c H1 => if c = true then q σ H1 R else R false H1) : tAnd p q σ H R := h
theorem r_or {p q : TT} {R : Bool → Hp → Prop} (h : p σ H fun c H1 => if c = true then R true H1 else q σ H1 R) : tOr p q σ H R := h
theorem r_not {p : TT} {R : Bool → Hp → Prop} (h : p σ H fun c H1 => R (!c) H1) : tNot p σ H R := h
theorem r_andV (h : ta σ H fun x H1 => ∃ c, x = .bl c ∧ if c = true then tb σ H1 Q else Q (.bl false) H1) : tAndV ta tb σ H Q := h
theorem r_orV (h : ta σ H fun x H1 => ∃ c, x = .bl c ∧ if c = true then Q (.bl true) H1 else tb σ H1 Q) : tOrV ta tb σ H Q := h
theorem r_notV (h : ta σ H fun x H1 => ∃ c, x = .bl c ∧ Q (.bl (!c)) H1) : tNotV ta σ H Q := h
theorem r_if {c : TT} (h : c σ H fun b H1 => if b = true then ta σ H1 Q else tb σ H1 Q) : tIf c ta tb σ H Q := h
theorem r_nil {R : List V → Hp → Prop} (h : R [] H) : tNil σ H R := h
theorem r_cons {tr : TA} {R : List V → Hp → Prop} (h : te σ H fun x H1 => tr σ H1 fun xs H2 => R (x :: xs) H2) : tCons te tr σ H R := h
def lstEnd (Q : VK) : List V → Hp → Prop := fun xs H1 => xs.length ≤ sizeLine ∧ ∀ p, H1 p = none → Q (.ref p) (upd H1 p (.lst xs))
def tupEnd (Q : VK) : List V → Hp → Prop := fun xs H1 => xs.length ≤ sizeLine ∧ ∀ p, H1 p = none → Q (.ref p) (upd H1 p (.tup xs))
theorem r_lst {tr : TA} (h : tr σ H (lstEnd Q)) : tLst tr σ H Q := h
theorem r_tup {tr : TA} (h : tr σ H (tupEnd Q)) : tTup tr σ H Q := h
theorem r_lstE {xs : List V} (l : xs.length ≤ sizeLine) (k : ∀ p H', H p = none → Same H H' → H' p = some (.lst xs) → Q (.ref p) H') : lstEnd Q xs H := ⟨l, fun p n => k p _ n (same_new n) upd_same⟩
theorem r_tupE {xs : List V} (l : xs.length ≤ sizeLine) (k : ∀ p H', H p = none → Same H H' → H' p = some (.tup xs) → Q (.ref p) H') : tupEnd Q xs H := ⟨l, fun p n => k p _ n (same_new n) upd_same⟩
theorem r_cb {r : List V → Hp → VK → Prop} {tr : TA} (h : tr σ H fun vs H1 => r vs H1 Q) : tCB r tr σ H Q := h
theorem r_call {sp : Sp} {dvs : List V} {E : XK} {tr : TA} (h : tr σ H fun vs H1 => sp (vs ++ dvs) H1 Q E) : tCall sp dvs E tr σ H Q := h
theorem r_dget (h : ta σ H fun x H1 => tb σ H1 fun y H2 => ∃ a v, x = .ref a ∧ DGet H2 a y (some v) ∧ Q v H2) : tDGet ta tb σ H Q := h
theorem r_dgetK {p : Addr} {kvs : List (Key × V)} {k : Str} {R : V → Prop} (h : H p = some (.dK kvs)) (e : valV kvs (.inr k) = some v) (q : R v) : ∃ a v, V.ref p = .ref a ∧ DGet H a (.str k) (some v) ∧ R v := ⟨p, v, rfl, dg h e, q⟩
theorem r_dput {tv : TE} (h : tv σ H fun v H1 => ta σ H1 fun x H2 => tb σ H2 fun y H3 => ∃ a H4, x = .ref a ∧ DPut H3 a y v H4 ∧ D.nx σ H4) : sDPut ta tb tv D σ H := h
theorem r_dputU {p : Addr} {kvs kvs' : List (Key × V)} {k : Str} {R : Hp → Prop} (e : putK kvs (.inr k) v = kvs') (hl : kvs.length < sizeLine) (q : R (upd H p (.dK kvs'))) : ∃ a H4, V.ref p = .ref a ∧ DPut (upd H p (.dK kvs)) a (.str k) v H4 ∧ R H4 := ⟨p, _, rfl, dpu e hl, q⟩
theorem r_dputK {p : Addr} {kvs kvs' : List (Key × V)} {k : Str} {R : Hp → Prop} (h : H p = some (.dK kvs)) (e : putK kvs (.inr k) v = kvs') (hl : kvs.length < sizeLine) (q : R (upd H p (.dK kvs'))) : ∃ a H4, V.ref p = .ref a ∧ DPut H a (.str k) v H4 ∧ R H4 := ⟨p, _, rfl, dp h e hl, q⟩
theorem r_len {p : Addr} {ys : List V} (h : SqL K H p ys) (q : Q (.int ys.length) H) : rLen K [.ref p] H Q := ⟨p, ys, rfl, .inl h, q⟩
theorem r_lenT {p : Addr} {ys : List V} (h : SqT K H p ys) (q : Q (.int ys.length) H) : rLen K [.ref p] H Q := ⟨p, ys, rfl, .inr h, q⟩
theorem r_int1 {i : Int} (q : Q (.int i) H) : rInt1 [.int i] H Q := .inl ⟨i, rfl, q⟩
theorem r_listL {p : Addr} {ys : List V} (h : SqL K H p ys) (q : ∀ l, H l = none → Q (.ref l) (upd H l (.lst ys))) : rListOf K [.ref p] H Q := ⟨p, ys, rfl, .inl h, q⟩
theorem r_listT {p : Addr} {ys : List V} (h : SqT K H p ys) (q : ∀ l, H l = none → Q (.ref l) (upd H l (.lst ys))) : rListOf K [.ref p] H Q := ⟨p, ys, rfl, .inr h, q⟩
theorem r_tupL {p : Addr} {ys : List V} (h : SqL K H p ys) (q : ∀ l, H l = none → Q (.ref l) (upd H l (.tup ys))) : rTupOf K [.ref p] H Q := ⟨p, ys, rfl, .inl ⟨h, q⟩⟩
theorem r_ixL {p : Addr} {xs : List V} {i : Int} (h : SqL K H p xs) (a : atI xs i = some v) (q : Q v H) : rIxL K (.ref p) (.int i) H Q := ⟨p, xs, i, v, rfl, rfl, h, a, q⟩
theorem r_ixT {p : Addr} {xs : List V} {i : Int} (h : SqT K H p xs) (a : atI xs i = some v) (q : Q v H) : rIxT K (.ref p) (.int i) H Q := ⟨p, xs, i, v, rfl, rfl, h, a, q⟩
end
theorem at_any {α : Type} {xs : List α} {a : Int} (h0 : 0 ≤ a) (h : a < (xs.length : Nat)) : ∃ z, z ∈ xs ∧ xs[a.toNat]? = some z ∧ atI xs a = some z := by
  obtain ⟨n, rfl⟩ := Int.eq_ofNat_of_zero_le h0
  have hk : n < xs.length := by omega
  exact ⟨xs[n], List.getElem_mem hk, by rw [Int.toNat_natCast]; exact List.getElem?_eq_getElem hk, atI_nat (List.getElem?_eq_getElem hk)⟩
theorem at_int {ns : List Int} {a : Int} (h0 : 0 ≤ a) (h : a < ((ns.map V.int).length : Nat)) : ∃ z, z ∈ ns ∧ atI (ns.map V.int) a = some (V.int z) := by
  obtain ⟨v, hv, _, e⟩ := at_any h0 h
  obtain ⟨z, hz, rfl⟩ := List.mem_map.mp hv
  exact ⟨z, hz, e⟩
theorem pen_put {H : Hp} {p c : Addr} {ns : List Int} {a r g m t : Int} (h : H c = some (.lst (ns.map V.int))) (n : c ≠ p) (ha : 0 ≤ a) (hm : 0 ≤ m) (hm2 : m < 2147483648) : PenStep p c H (upd H p (.dK (pk c a r g m t))) :=
  ⟨⟨ns, a, r, g, m, t, upd_same, by rw [upd_ne n]; exact h, ha, hm, hm2⟩, fun b o nb e => by rw [upd_ne nb]; exact e⟩
theorem wide100 {i b : Int} (h : 0 < b) (hb : b < 2 ^ 100) : CDivW i b := wide_div h (b := 100) (by omega) (by decide) (by decide)
theorem pow18 : CPow 10 18 := ⟨by decide, by decide, by decide⟩
def isDi : HO → Bool
  | .dK _ => true
  | .dT _ => true
  | .own _ => false
  | _ => false
theorem PenAt.ne {H : Hp} {p c b : Addr} {o : HO} (h : PenAt H p c) (e : H b = some o) (d : isDi o = false) : b ≠ p := fun z => by
  obtain ⟨ns, a, r, g, m, t, h1, _⟩ := h.ex
  rw [z, h1] at e
  cases Option.some.inj e
  cases d
theorem PenStep.at {p c b : Addr} {H H' : Hp} {o : HO} (s : PenStep p c H H') (h : PenAt H p c) (e : H b = some o) (d : isDi o = false) : H' b = some o := s.keep b o (h.ne e d) e
theorem PenStep.atd {p c b : Addr} {H H' : Hp} {o : HO} (s : PenStep p c H H') (e : H b = some o) (d : b ≠ p) : H' b = some o := s.keep b o d e
theorem Same.at {b : Addr} {H H' : Hp} {o : HO} (s : Same H H') (e : H b = some o) : H' b = some o := s b o e
theorem PenStep.free {p c b : Addr} {H H' : Hp} (s : PenStep p c H H') (e : H' b = none) : H b = none := by
  cases q : H b with
  | none => rfl
  | some o =>
    by_cases z : b = p
    · obtain ⟨u, h1⟩ := s.pen.some_p
      rw [z, h1] at e
      cases e
    · rw [s.keep b o z q] at e
      cases e
theorem same_put {H H1 : Hp} {q : Addr} {o : HO} (a : Same H H1) (n : H q = none) : Same H (upd H1 q o) := fun b u e => by rw [upd_ne (ne_of_none e n)]; exact a b u e
theorem r_pick {K : PySem.W.Frag} {H : Hp} {q : Addr} {r : Int} {l : List V} {Q : VK} (ns : List Str) (h : H q = some (.lst l)) (e : l = ns.map V.str) (h0 : 0 ≤ r) (h1 : r < (ns.length : Nat)) (k : ∀ a, a ∈ ns → Q (.str a) H) : rIxL K (.ref q) (.int r) H Q := by
  subst e
  obtain ⟨v, hv, _, e⟩ := at_any (xs := ns.map V.str) h0 (by rw [List.length_map]; exact h1)
  obtain ⟨z, hz, rfl⟩ := List.mem_map.mp hv
  exact r_ixL (SqL.of h) e (k z hz)
end Wm
namespace Wm
open PySem L2 PySem.Spec
open PyProof.Rows hiding St
section
variable {X : Cx}
def rEqOwn (K : PySem.W.Frag) (C : Addr) (sp : Sp) (E : XK) : R2 := fun x y H Q => ∃ a dx fs tb, x = .ref a ∧ H a = some (.ins C dx fs) ∧ TyX K H y tb ∧ PySem.W.notFirst K C tb = true ∧ sp [x, y] H (fun v H' => (∃ b, v = .bl b) ∧ Q v H') E
theorem op_eqOwn {CX : CXT} {C f : Addr} {fd : FuncData} {ps : List Str} {k : Nat} {sp : Sp} {E : XK} (F : FnOk X.prog X.w X.K X.mg X.base CX k f fd ps sp) (hr : Room k X.A)
    (hm : Meth X.K C "__eq__" f) (hb : Binds X.K fd ps []) (hx : Passes CX X E) : OpR X (compareOp .Eq) (rEqOwn X.K C sp E) := by
  intro pins s σ H x y v u Q I rx ry hq
  obtain ⟨a, dx, fs, tb, rfl, ha, ty, hn, hsp⟩ := hq
  cases rx
  obtain ⟨mA, J, _⟩ := ins_get I.hok ha
  obtain ⟨od, J, _⟩ := J.look
  obtain ⟨m, hF⟩ := I.fr
  obtain ⟨PP, Z, hp, _⟩ := kit_of I ry ty
  show wpAny (model X.prog X.w) X.A (richCompare .Eq (.ref a) u) (EP X pins σ Q) X.xe s
  refine PySem.W.cmp_K (op := .Eq) (tb := tb) hr.units0 hF I.ok.mod.kin J (Z.ty _ _ I.kIn hp) hn hm.at_ hm.fn ?_
  refine wpAny_mono (run_fn F hr hb .nil hx I (vs := [.ref a, y]) (us := [.ref a, u]) (.cons rfl (.cons ry .nil)) hsp) (fun r s' z => ?_) fun _ _ e => e
  obtain ⟨v, H', I', rv, hvb, q⟩ := z
  obtain ⟨b', rfl⟩ := hvb
  cases rv
  exact ⟨.bl b', H', I', rfl, q⟩
def tMakeKS (C : Addr) (n m : Nat) (sp : Sp) (gV : List V → List V → List V) (E : St → XK) (t tk : TA) : TE := fun σ H Q => t σ H fun vs H1 => tk σ H1 fun zs H2 => vs.length = n ∧ zs.length = m ∧ ∀ x dx, H2 x = none → H2 dx = none → dx ≠ x →
  sp (gV (.ref x :: vs) zs) (upd (upd H2 dx (.own x)) x (.ins C dx [])) (fun v H3 => v = .non ∧ Q (.ref x) H3) (E σ)
section
variable {CX : CXT} {k n : Nat} {f C : Addr} {fd : FuncData} {ps ks : List Str} {sp : Sp} {E : St → XK} {x : Str} {p pos : Pos} {e : Expr} {es : List Expr} {kws : List Keyword} {t tk : TA} {g : List Value → List Value → List Value} {gV : List V → List V → List V}
end
end
section
variable {D : Ends} {σ : St} {H : Hp} {Q : VK} {K : PySem.W.Frag} {x y : V}
theorem r_isi {T a : String} {b : Bool} (h : TyX K H x (.type a)) (e : kitB a T = some b) (q : Q (.bl b) H) : rIsi K [x, .ty T] H Q := ⟨x, .ty T, .type a, .type T, b, rfl, .ty T, h, kit_ty e, q⟩
theorem r_fld {ta : TE} {f : Str} (h : ta σ H fun x H1 => ∃ a C dx fs v, x = .ref a ∧ H1 a = some (.ins C dx fs) ∧ Cls K C ∧ NoAttr K C f ∧ fs.lookup f = some v ∧ Q v H1) : tFld K ta f σ H Q := h
theorem r_fldK {p C dx : Addr} {fs : List (Str × V)} {f : Str} {v : V} {R : V → Prop} (h : H p = some (.ins C dx fs)) (c : Cls K C) (n : NoAttr K C f) (e : fs.lookup f = some v) (q : R v) :
    ∃ a C dx fs v, V.ref p = .ref a ∧ H a = some (.ins C dx fs) ∧ Cls K C ∧ NoAttr K C f ∧ fs.lookup f = some v ∧ R v := ⟨p, C, dx, fs, v, rfl, h, c, n, e, q⟩
theorem r_fldS {ta tv : TE} {f : Str} (h : tv σ H fun y H1 => ta σ H1 fun x H2 => ∃ a C dx fs, x = .ref a ∧ H2 a = some (.ins C dx fs) ∧ Cls K C ∧ NoAttr K C f ∧ fs.length < 1000 ∧ D.nx σ (upd H2 a (.ins C dx (putF f y fs)))) : sFld K ta tv f D σ H := h
theorem r_fldP {p C dx : Addr} {fs fs' : List (Str × V)} {f : Str} {y : V} (h : H p = some (.ins C dx fs)) (c : Cls K C) (n : NoAttr K C f) (l : fs.length < 1000) (e : putF f y fs = fs') (q : D.nx σ (upd H p (.ins C dx fs'))) :
    ∃ a C dx fs, V.ref p = .ref a ∧ H a = some (.ins C dx fs) ∧ Cls K C ∧ NoAttr K C f ∧ fs.length < 1000 ∧ D.nx σ (upd H a (.ins C dx (putF f y fs))) := ⟨p, C, dx, fs, rfl, h, c, n, l, by rw [e]; exact q⟩
theorem r_gsub {to ti : TE} {t : TSet} {v : V} {R : St → Hp → Prop} (h : to σ H fun o H1 => ti σ H1 fun i H2 => t o i v H2 fun H3 => R σ H3) : gSub to ti t v σ H R := h
theorem r_setL {p : Addr} {xs xs' : List V} {k : Int} {j : Nat} {v : V} {R : Hp → Prop} (h : H p = some (.lst xs)) (e : ixN xs.length k = some j) (e2 : xs.set j v = xs') (q : R (upd H p (.lst xs'))) : rSetL (.ref p) (.int k) v H R := ⟨p, xs, k, j, rfl, rfl, h, e, by rw [e2]; exact q⟩
theorem r_gtup {n : Nat} {t : TGs} {p : Addr} {xs : List V} {R : St → Hp → Prop} (h : SqT K H p xs) (l : xs.length = n) (q : t xs σ H R) : gTup K n t (.ref p) σ H R := ⟨p, xs, rfl, h, l, q⟩
theorem r_gcons {t : TG} {u : TGs} {v : V} {r : List V} {R : St → Hp → Prop} (q : t v σ H fun σ' H' => u r σ' H' R) : gCons t u (v :: r) σ H R := ⟨v, r, rfl, q⟩
theorem r_gnil {R : St → Hp → Prop} (q : R σ H) : gNil [] σ H R := ⟨rfl, q⟩
theorem r_bm {T : String} {r : V → List V → Hp → VK → Prop} {to : TE} {t : TA} (h : to σ H fun x H1 => tyV K T x H1 ∧ t σ H1 fun xs H2 => r x xs H2 Q) : tBM K T r to t σ H Q := h
theorem r_bm0 {T : String} {r : V → List V → Hp → VK → Prop} {to : TE} (h : to σ H fun x H1 => tyV K T x H1 ∧ r x [] H1 Q) : tBM0 K T r to σ H Q := h
theorem r_tyL {p : Addr} {xs : List V} {R : Prop} (h : SqL K H p xs) (q : R) : tyV K "list" (.ref p) H ∧ R := ⟨.inl ⟨rfl, xs, h⟩, q⟩
theorem r_append {p : Addr} {xs : List V} {y : V} (h : H p = some (.lst xs)) (l : xs.length < sizeLine) (q : Q .non (upd H p (.lst (xs ++ [y])))) : rAppend (.ref p) [y] H Q := ⟨p, xs, y, rfl, rfl, h, l, q⟩
theorem r_in {neg : Bool} {p : Addr} {xs : List V} {x : V} (h : SqL K H p xs ∨ SqT K H p xs) (f : flatV x = true) (g : xs.all flatV = true) (q : Q (.bl (if neg then !inV x xs else inV x xs)) H) : rIn K neg x (.ref p) H Q := ⟨p, xs, rfl, h, f, g, q⟩
theorem r_lenK {p : Addr} {ys : List V} (h : H p = some (.lst ys)) (q : Q (.int ys.length) H) : rLen K [.ref p] H Q := r_len (.of h) q
theorem r_lenTK {p : Addr} {ys : List V} (h : H p = some (.tup ys)) (q : Q (.int ys.length) H) : rLen K [.ref p] H Q := r_lenT (.of h) q
theorem r_listLK {p : Addr} {ys : List V} (h : H p = some (.lst ys)) (q : ∀ l H', H l = none → Same H H' → H' l = some (.lst ys) → Q (.ref l) H') : rListOf K [.ref p] H Q := r_listL (.of h) fun l n => q l _ n (same_new n) upd_same
theorem r_listTK {p : Addr} {ys : List V} (h : H p = some (.tup ys)) (q : ∀ l H', H l = none → Same H H' → H' l = some (.lst ys) → Q (.ref l) H') : rListOf K [.ref p] H Q := r_listT (.of h) fun l n => q l _ n (same_new n) upd_same
theorem r_ixLK {p : Addr} {xs : List V} {i : Int} {v : V} (h : H p = some (.lst xs)) (a : atI xs i = some v) (q : Q v H) : rIxL K (.ref p) (.int i) H Q := r_ixL (.of h) a q
theorem r_ixTK {p : Addr} {xs : List V} {i : Int} {v : V} (h : H p = some (.tup xs)) (a : atI xs i = some v) (q : Q v H) : rIxT K (.ref p) (.int i) H Q := r_ixT (.of h) a q
theorem r_gtupK {n : Nat} {t : TGs} {p : Addr} {xs : List V} {R : St → Hp → Prop} (h : H p = some (.tup xs)) (l : xs.length = n) (q : t xs σ H R) : gTup K n t (.ref p) σ H R := r_gtup (.of h) l q
theorem r_tyLK {p : Addr} {xs : List V} {R : Prop} (h : H p = some (.lst xs)) (q : R) : tyV K "list" (.ref p) H ∧ R := r_tyL (.of h) q
theorem r_for {wi : TI} {g : TG} {tb : TS} (h : wi σ H fun J H1 => ∃ W : Nat → Nat → St → Hp → Prop, (∃ m, W 0 m σ H1) ∧ ∀ i m σ H, W i m σ H →
  (J.stop i H ∧ D.nx σ H) ∨ (J.go i H ∧ ∃ N : St → Hp → Prop, (∀ σ' H', N σ' H' → ∃ m', m' < m ∧ W (i + 1) m' σ' H') ∧ ∀ x H', J.yld i H x H' → g x σ H' fun σ2 H2 => tb { D with nx := N, ct := N, bk := D.nx } σ2 H2)) : tFor wi g tb D σ H := h
theorem r_il {tl : TE} {R : It → Hp → Prop} (h : tl σ H fun x H1 => ∃ a, x = .ref a ∧ (∃ xs, SqL K H1 a xs) ∧ R (Itl K a) H1) : iList K tl σ H R := h
theorem r_it {tl : TE} {R : It → Hp → Prop} (h : tl σ H fun x H1 => ∃ a, x = .ref a ∧ (∃ xs, SqT K H1 a xs) ∧ R (Itt K a) H1) : iTup K tl σ H R := h
theorem r_rng1 {ta : TA} {R : It → Hp → Prop} (h : ta σ H fun vs H1 => ∃ j : Int, vs = [.int j] ∧ -(2 ^ 62) ≤ j ∧ j < 2 ^ 62 ∧ R (Itr 0 j.toNat) H1) : iRng1 ta σ H R := h
theorem r_rngK {j : Int} {R : Int → Prop} (h1 : -(2 ^ 62) ≤ j) (h2 : j < 2 ^ 62) (q : R j) : ∃ k : Int, [V.int j] = [.int k] ∧ -(2 ^ 62) ≤ k ∧ k < 2 ^ 62 ∧ R k := ⟨j, rfl, h1, h2, q⟩
theorem r_ilK {p : Addr} {xs : List V} {R : Addr → Prop} (h : SqL K H p xs) (q : R p) : ∃ a, V.ref p = .ref a ∧ (∃ xs, SqL K H a xs) ∧ R a := ⟨p, rfl, ⟨xs, h⟩, q⟩
theorem r_itK {p : Addr} {xs : List V} {R : Addr → Prop} (h : SqT K H p xs) (q : R p) : ∃ a, V.ref p = .ref a ∧ (∃ xs, SqT K H a xs) ∧ R a := ⟨p, rfl, ⟨xs, h⟩, q⟩
theorem r_dnew (q : ∀ p H', H p = none → Same H H' → H' p = some (.dK []) → Q (.ref p) H') : tDNewK σ H Q := fun p n => q p _ n (same_new n) upd_same
def dispEnd (p : Addr) (Q : VK) : List (V × V) → Hp → Prop := fun ps H2 => H2 p = some (.dK []) ∧ ∃ kvs : List (Key × V), ps = kvs.map (fun kv => (kV kv.1, kv.2)) ∧ kvs.length ≤ 15 ∧ Q (.ref p) (upd H2 p (.dK (mergeK [] kvs)))
theorem r_disp {trs : List (TE × TE)} (h : ∀ p H', H p = none → Same H H' → H' p = some (.dK []) → tPairs trs σ H' (dispEnd p Q)) : tDisp trs σ H Q := fun p n => h p _ n (same_new n) upd_same
theorem r_dispE {p : Addr} {ps : List (V × V)} (kvs kvs' : List (Key × V)) (h : H p = some (.dK [])) (e : ps = kvs.map (fun kv => (kV kv.1, kv.2))) (l : kvs.length ≤ 15) (e2 : mergeK [] kvs = kvs') (q : Q (.ref p) (upd H p (.dK kvs'))) :
    dispEnd p Q ps H := ⟨h, kvs, e, l, by rw [e2]; exact q⟩
theorem r_neg {i : Int} (q : Q (.int (-i)) H) : rU (fun i => .int (-i)) (.int i) H Q := ⟨i, rfl, q⟩
theorem r_un {r : V → Hp → VK → Prop} {ta : TE} (h : ta σ H fun x H1 => r x H1 Q) : tUn r ta σ H Q := h
theorem r_pn {R : List (V × V) → Hp → Prop} (q : R [] H) : tPairs [] σ H R := q
theorem r_pc {tk tv : TE} {r : List (TE × TE)} {R : List (V × V) → Hp → Prop} (q : tk σ H fun k H1 => tv σ H1 fun v H2 => tPairs r σ H2 fun ps H3 => R ((k, v) :: ps) H3) : tPairs ((tk, tv) :: r) σ H R := q
def erEnd (C : Addr) (fs : List Str) (W : WX) (σ : St) : List V → Hp → Prop := fun vs H1 => vs.length = fs.length ∧ vs.length ≤ 1000 ∧ (fs = [] → W (.ref C) none σ H1) ∧ (fs ≠ [] → ∀ d, H1 d = none → W (.ref C) (some d) σ (upd H1 d (.xd (fs.zip vs))))
theorem r_raiseEr {C : Addr} {fs : List Str} {W : WX} {ta : TA} (h : ta σ H (erEnd C fs W σ)) : tRaiseEr C fs W ta D σ H := h
theorem r_erE {C : Addr} {fs : List Str} {W : WX} {vs : List V} (l : vs.length = fs.length) (l2 : vs.length ≤ 1000) (hn : fs ≠ []) (k : ∀ d H', H d = none → Same H H' → H' d = some (.xd (fs.zip vs)) → W (.ref C) (some d) σ H') : erEnd C fs W σ vs H :=
  ⟨l, l2, fun z => absurd z hn, fun _ d n => k d _ n (same_new n) upd_same⟩
theorem r_erE0 {C : Addr} {W : WX} (k : W (.ref C) none σ H) : erEnd C [] W σ [] H := ⟨rfl, Nat.zero_le _, fun _ => k, fun z => absurd rfl z⟩
theorem r_isiO {C : Addr} {t : Value} {b : Bool} (h : TyX K H x t) (e : PySem.W.kitOne K t (.ref C) = some b) (q : Q (.bl b) H) : rIsi K [x, .ref C] H Q := ⟨x, .ref C, t, .ref C, b, rfl, .own C, h, e, q⟩
structure OwnC (K : PySem.W.Frag) (C : Addr) : Prop where
  cl : Cls K C
  ha : PySem.W.findIn K (.ref C) "__class__" = some (some (.builtin "object.__class__"))
  hn : PySem.W.specialIn K (.builtin "object.__class__") "__get__" = some (some (.builtin "getset_descriptor.__get__"))
  ht : PySem.W.takesIn K (.builtin "object.__class__") = some true
  hm : PySem.W.mroIn K C (.type "object") = some true
  self : PySem.W.kitOne K (.ref C) (.ref C) = some true
  base : ∀ t, t ∈ ["NoneType", "bool", "int", "str", "list", "tuple", "dict"] → PySem.W.kitOne K (.type t) (.ref C) = some false
theorem OwnC.ty {C p dx : Addr} {fs : List (Str × V)} (o : OwnC K C) (h : H p = some (.ins C dx fs)) : TyX K H (.ref p) (.ref C) := .base (.ins h o.cl o.ha o.hn o.ht o.hm)
def mkQ (Q : VK) (x : Addr) : VK := fun v H3 => v = .non ∧ Q (.ref x) H3
theorem r_mkQ {p : Addr} (q : Q (.ref p) H) : mkQ Q p .non H := ⟨rfl, q⟩
def mkEnd (C : Addr) (n m : Nat) (sp : Sp) (gV : List V → List V → List V) (E : XK) (Q : VK) (vs : List V) : List V → Hp → Prop := fun zs H2 => vs.length = n ∧ zs.length = m ∧ ∀ x dx, H2 x = none → H2 dx = none → dx ≠ x →
  sp (gV (.ref x :: vs) zs) (upd (upd H2 dx (.own x)) x (.ins C dx [])) (mkQ Q x) E
def mk1End (C : Addr) (sp : Sp) (dvs : List V) (E : XK) (Q : VK) : List V → Hp → Prop := fun vs H2 => ∀ x dx, H2 x = none → H2 dx = none → dx ≠ x →
  sp (.ref x :: (vs ++ dvs)) (upd (upd H2 dx (.own x)) x (.ins C dx [])) (mkQ Q x) E
theorem same_mk {C x dx : Addr} {fs : List (Str × V)} (n1 : H x = none) (n2 : H dx = none) (n3 : dx ≠ x) : Same H (upd (upd H dx (.own x)) x (.ins C dx fs)) := same_put (same_new n2) n1
theorem r_makeKS {C : Addr} {n m : Nat} {sp : Sp} {gV : List V → List V → List V} {E : St → XK} {tx tk : TA} (h : tx σ H fun vs H1 => tk σ H1 (mkEnd C n m sp gV (E σ) Q vs)) : tMakeKS C n m sp gV E tx tk σ H Q := h
theorem r_makeK {C : Addr} {n m : Nat} {sp : Sp} {gV : List V → List V → List V} {E : XK} {tx tk : TA} (h : tx σ H fun vs H1 => tk σ H1 (mkEnd C n m sp gV E Q vs)) : tMakeK C n m sp gV E tx tk σ H Q := h
theorem r_make {C : Addr} {sp : Sp} {dvs : List V} {E : XK} {tx : TA} (h : tx σ H (mk1End C sp dvs E Q)) : tMake C sp dvs E tx σ H Q := h
theorem r_mkE {C : Addr} {n m : Nat} {sp : Sp} {gV : List V → List V → List V} {E : XK} {vs zs : List V} (l1 : vs.length = n) (l2 : zs.length = m)
    (k : ∀ x dx H', H x = none → Same H H' → H' x = some (.ins C dx []) → sp (gV (.ref x :: vs) zs) H' (mkQ Q x) E) : mkEnd C n m sp gV E Q vs zs H := ⟨l1, l2, fun x dx n1 n2 n3 => k x dx _ n1 (same_mk n1 n2 n3) upd_same⟩
theorem r_mk1E {C : Addr} {sp : Sp} {dvs vs : List V} {E : XK} (k : ∀ x dx H', H x = none → Same H H' → H' x = some (.ins C dx []) → sp (.ref x :: (vs ++ dvs)) H' (mkQ Q x) E) : mk1End C sp dvs E Q vs H := fun x dx n1 n2 n3 => k x dx _ n1 (same_mk n1 n2 n3) upd_same
theorem same_but {p : Addr} {H1 H2 : Hp} (n : H p = none) (s : Same H H1) (k : ∀ b o, b ≠ p → H1 b = some o → H2 b = some o) : Same H H2 := fun b o e => k b o (ne_of_none e n) (s b o e)
theorem r_xf {a : Addr} {cls : Value} {d : Option Addr} {C : Addr} {f : Str} {te : TE} (h : te σ H fun x H1 => x = .ref a ∧ cls = .ref C ∧ ∃ (dd : Addr) (fs : List (Str × V)) (v : V), d = some dd ∧ H1 dd = some (.xd fs) ∧ fs.lookup f = some v ∧ Q v H1) : tXf a cls d C f te σ H Q := h
theorem r_xfK {a C dd : Addr} {fs : List (Str × V)} {f : Str} {v : V} {R : V → Prop} (h : H dd = some (.xd fs)) (e : fs.lookup f = some v) (q : R v) : V.ref a = .ref a ∧ Value.ref C = .ref C ∧ ∃ (d2 : Addr) (fs : List (Str × V)) (v : V), some dd = some d2 ∧ H d2 = some (.xd fs) ∧ fs.lookup f = some v ∧ R v :=
  ⟨rfl, rfl, dd, fs, v, rfl, h, e, q⟩
theorem iteNF {A B : Prop} (h : A) : if (!false) = true then A else B := h
theorem iteNT {A B : Prop} (h : B) : if (!true) = true then A else B := h
theorem inV_strs {x : Str} {ss : List Str} : inV (.str x) (ss.map V.str) = decide (x ∈ ss) := by
  unfold inV
  rw [List.any_map]
  induction ss with
  | nil => rfl
  | cons a l ih =>
    rw [List.any_cons, ih]
    show ((a == x) || _) = _
    by_cases e : a = x
    · subst e
      simp
    · have e' : ¬ x = a := fun z => e z.symm
      simp [e, e']
theorem flat_strs (ss : List Str) : (ss.map V.str).all flatV = true := by
  induction ss with
  | nil => rfl
  | cons a l ih => exact ih
theorem r_inSN {p : Addr} {ss : List Str} {x : Str} (h : SqL K H p (ss.map V.str) ∨ SqT K H p (ss.map V.str)) (q : Q (.bl (!decide (x ∈ ss))) H) : rIn K true (.str x) (.ref p) H Q := r_in h rfl (flat_strs ss) (by rw [inV_strs]; exact q)
theorem r_inSP {p : Addr} {ss : List Str} {x : Str} (h : SqL K H p (ss.map V.str) ∨ SqT K H p (ss.map V.str)) (q : Q (.bl (decide (x ∈ ss))) H) : rIn K false (.str x) (.ref p) H Q := r_in h rfl (flat_strs ss) (by rw [inV_strs]; exact q)
end
end Wm
namespace Wm
open PySem L2 PySem.Spec PySem.W PySem.SeqAt ClX
open PyProof.Rows hiding St
def rEqP (K : PySem.W.Frag) : R2 := fun x y H Q => ∃ d e, Dp K H x d ∧ Dp K H y e ∧ d.plain = true ∧ e.plain = true ∧ d.depth ≤ 64 ∧ Q (.bl (PyData.eqv d e)) H
def rNeP (K : PySem.W.Frag) : R2 := fun x y H Q => ∃ d e, Dp K H x d ∧ Dp K H y e ∧ d.plain = true ∧ e.plain = true ∧ d.depth ≤ 64 ∧ Q (.bl (!PyData.eqv d e)) H
section
variable {X : Cx}
theorem op_eqP (hu : X.A.units + 64 < cLine) : OpR X (compareOp .Eq) (rEqP X.K) := by
  intro pins s σ H x y v u Q I rx ry h
  obtain ⟨d, e, hd, he, sd, se, hdp, q⟩ := h
  obtain ⟨as, r1⟩ := Dp.reads I d x v hd rx
  obtain ⟨bs, r2⟩ := Dp.reads I e y u he ry
  exact eq_plain r1 r2 sd se (by omega) ⟨.bl _, H, I, rfl, q⟩
theorem op_neP (hu : X.A.units + 64 < cLine) : OpR X (compareOp .NotEq) (rNeP X.K) := by
  intro pins s σ H x y v u Q I rx ry h
  obtain ⟨d, e, hd, he, sd, se, hdp, q⟩ := h
  obtain ⟨as, r1⟩ := Dp.reads I d x v hd rx
  obtain ⟨bs, r2⟩ := Dp.reads I e y u he ry
  exact ne_plain r1 r2 sd se (by omega) ⟨.bl _, H, I, rfl, q⟩
end
section
variable {H : Hp} {Q : VK} {K : PySem.W.Frag} {x y : V}
theorem r_eqT {α : Type} [DecidableEq α] [Datum α] (a b : α) (h : Dp K H x (Datum.toD a)) (h' : Dp K H y (Datum.toD b)) (q : Q (.bl (decide (a = b))) H) (hd : Datum.depth α ≤ 64 := by decide) : rEqP K x y H Q :=
  ⟨_, _, h, h', Datum.plain a, Datum.plain b, Nat.le_trans (Datum.depth_le a) hd, by rw [Datum.eqv]; exact q⟩
theorem r_neT {α : Type} [DecidableEq α] [Datum α] (a b : α) (h : Dp K H x (Datum.toD a)) (h' : Dp K H y (Datum.toD b)) (q : Q (.bl (!decide (a = b))) H) (hd : Datum.depth α ≤ 64 := by decide) : rNeP K x y H Q :=
  ⟨_, _, h, h', Datum.plain a, Datum.plain b, Nat.le_trans (Datum.depth_le a) hd, by rw [Datum.eqv]; exact q⟩
theorem dps_str : ∀ (ss : List Str), DpAll K H (ss.map V.str) (ss.map Datum.toD)
  | [] => .nil
  | s :: ss => .cons (.str s) (dps_str ss)
theorem dp_strs {p : Addr} {ss : List Str} (h : H p = some (.lst (ss.map V.str))) : Dp K H (.ref p) (Datum.toD ss) := .lst (.of h) (dps_str ss)
theorem dp_strsT {p : Addr} {ss : List Str} (h : H p = some (.tup (ss.map V.str))) : Dp K H (.ref p) (Datum.toD (Tup.mk ss)) := .tup (.of h) (dps_str ss)
theorem r_neSS {p q : Addr} {xs ys : List V} (ss tt : List Str) (h : H p = some (.lst xs)) (h' : H q = some (.lst ys)) (e : xs = ss.map V.str) (e' : ys = tt.map V.str) (k : Q (.bl (!decide (ss = tt))) H) : rNeP K (.ref p) (.ref q) H Q :=
  r_neT ss tt (dp_strs (e ▸ h)) (dp_strs (e' ▸ h')) k
theorem r_glst {σ : St} {n : Nat} {t : TGs} {p : Addr} {xs : List V} {R : St → Hp → Prop} (h : H p = some (.lst xs)) (l : xs.length = n) (q : t xs σ H R) : gLst K n t (.ref p) σ H R := ⟨p, xs, rfl, .of h, l, q⟩
theorem r_cval {σ : St} {ta : TE} {f : Str} (h : ta σ H fun x H1 => ∃ C mc v u, x = .ref C ∧ CRead K C mc ∧ CVal K C mc f v u ∧ Q v H1) : tCVal K ta f σ H Q := h
theorem r_cvalK {C : Addr} {mc u : Value} {f : Str} {v : V} {R : V → Prop} (a : CRead K C mc) (b : CVal K C mc f v u) (q : R v) : ∃ C' mc v u, V.ref C = .ref C' ∧ CRead K C' mc ∧ CVal K C' mc f v u ∧ R v := ⟨C, mc, v, u, rfl, a, b, q⟩
theorem r_rEqOwn {a C dx : Addr} {fs : List (Str × V)} {tb : Value} {sp : Sp} {E : XK} (h : H a = some (.ins C dx fs)) (ty : TyX K H y tb) (n : PySem.W.notFirst K C tb = true) (k : sp [.ref a, y] H (fun v H' => (∃ b, v = .bl b) ∧ Q v H') E) : rEqOwn K C sp E (.ref a) y H Q := ⟨a, dx, fs, tb, rfl, h, ty, n, k⟩
theorem r_ifJ {t u : TS} {D : Ends} {σ : St} {b : Bool} (P : St → Hp → Prop) (rest : ∀ σ H, P σ H → D.nx σ H) (k : ∀ N : St → Hp → Prop, (∀ σ H, P σ H → N σ H) → if b = true then t { D with nx := N } σ H else u { D with nx := N } σ H) : if b = true then t D σ H else u D σ H := k D.nx rest
theorem r_neSE {p q : Addr} {xs ys : List V} (ss : List Str) (h : H p = some (.lst xs)) (h' : H q = some (.lst ys)) (e : xs = ss.map V.str) (e' : ys = ss.map V.str) (k : Q (.bl false) H) : rNeP K (.ref p) (.ref q) H Q :=
  r_neSS ss ss h h' e e' (by rwa [show (!decide (ss = ss)) = false from by simp])
end
end Wm
namespace Wm
open PySem L2 PySem.Er PySem.W
theorem er_mk {prog : Program} {K : Frag} {qual : Str} {fs : List Str} {C fI cda cc : Addr} {oc ct ccl cl doc pm : Value} {od an cdd cld : Option Addr} {params : Arguments} {body : List Stmt} {scope : Scope} {osl ccs csl : Array (Option Value)} {vs : Array Value} {file : Str} {tf : Tok}
    {B newId initId : String} {bmB : List Value} (KF : KxsFacts B initId) (FB : ExcBaseFacts B newId initId bmB) (SF : StoreFacts B bmB "object.__setattr__" "object") (fm : IForm fs params body scope)
    (init : findIn K (.ref C) "__init__" = some (some (.ref fI))) (ty : typeIn K (.ref fI) = some (.type "function"))
    (lk : K.lookup fI = some ⟨oc, od, .func (ksFn "__init__" qual params body scope .none .none doc pm an (.ref cda) ct cc), osl⟩) (hc : codeIn K (.ref cda) qual = true)
    (code : K.lookup cda = some ⟨ccl, cdd, .fields vs, ccs⟩) (hv : vs[2]? = some (.str file tf)) (hf : ((prog.main.file : Str) == file) = true) (cell : K.lookup cc = some ⟨cl, cld, .cell (some (.ref C)), csl⟩)
    (ic : isClsIn K C = true) (sub : mroIn K C (.ref C) = some true) (noS : nsIn K mainGlobals "super" = some none) (noT : nsIn K cStatics "thirdparty.any" = some none) (top : (prog.main.scope.names.lookup ("super" : Str)).isSome = false)
    (sup : ks_superIn K C C "__init__" = some (some (.builtin initId))) (base : subIn K (.ref C) (.type B) = some true) (exc : excInitIn K C bmB newId = true)
    (sa : findIn K (.ref C) "__setattr__" = some (some (.builtin "object.__setattr__"))) (ov : excOver K C bmB = true) (hd : hasDictIn K C = true) (no : ∀ f ∈ fs, findIn K (.ref C) f = some none)
    (exC : subIn K (.ref C) (.type "BaseException") = some true) (tyC : typeIn K (.ref C) = some (.type "type")) (kC : keepIn K (.ref C) = true) : ErC prog K qual fs C :=
  { ex := ⟨fI, B, newId, initId, bmB, { fn := ⟨oc, od, params, body, scope, doc, pm, an, cda, cc, ct, osl, lk, hc, fm, { code := ⟨ccl, cdd, ccs, vs, file, tf, code, hv, hf⟩, cell := ⟨cl, cld, csl, cell⟩, cls := Option.isSome_iff_exists.mp ic, sub := sub, noS := noS, noT := noT, top := top, sup := sup, base := base, exc := exc }⟩, sa := sa, ov := ov, hd := hd, no := no, init := init, ty := ty }, KF, FB, SF, exc⟩
    exC := exC, tyC := tyC, kC := kC }
theorem exm_self {K : Frag} {S : Addr} (h1 : subIn K (.ref S) (.type "BaseException") = some true) (h2 : isClsIn K S = true) (h3 : typeIn K (.ref S) = some (.type "type")) (h4 : subIn K (.ref S) (.ref S) = some true) : exmOne K (.ref S) (.ref S) = some true := by
  have e1 : (subIn K (.ref S) (.type "BaseException") == some true) = true := by rw [h1] <;> rfl
  have e2 : ((clsIn K S).isSome && typeIn K (.ref S) == some (.type "type")) = true := by
    have h2' : (clsIn K S).isSome = true := h2
    rw [h2', h3] <;> rfl
  show (if (subIn K (.ref S) (.type "BaseException") == some true) = true then (if ((clsIn K S).isSome && typeIn K (.ref S) == some (.type "type")) = true then subIn K (.ref S) (.ref S) else none) else none) = some true
  rw [if_pos e1, if_pos e2]
  exact h4
theorem sqt_mk {K : Frag} {a : Addr} {od : Option Addr} {its : Array Value} {n : Nat} {sl : Array (Option Value)} {xs : List V} (h : K.lookup a = some ⟨.type "tuple", od, .seq its n, sl⟩) (l : decide (its.size ≤ 16777216) = true) (r : Vals xs its.toList) : ∀ H, SqT K H a xs :=
  fun H => .inr ⟨_, its, n, h, rfl, rfl, by rw [sizeLine_eq]; exact of_decide_eq_true l, r⟩
theorem own_mk {K : Frag} {C : Addr} (pg : plainGet K C Str.empty = true) (hd : hasDictIn K C = true) (po : plainOver K C = true) (sa : findIn K (.ref C) "__setattr__" = some (some (.builtin "object.__setattr__")))
    (ha : findIn K (.ref C) "__class__" = some (some (.builtin "object.__class__"))) (hn : specialIn K (.builtin "object.__class__") "__get__" = some (some (.builtin "getset_descriptor.__get__"))) (ht : takesIn K (.builtin "object.__class__") = some true) (hm : mroIn K C (.type "object") = some true)
    (k1 : kitOne K (.ref C) (.ref C) = some true) (b1 : kitOne K (.type "NoneType") (.ref C) = some false) (b2 : kitOne K (.type "bool") (.ref C) = some false) (b3 : kitOne K (.type "int") (.ref C) = some false) (b4 : kitOne K (.type "str") (.ref C) = some false)
    (b5 : kitOne K (.type "list") (.ref C) = some false) (b6 : kitOne K (.type "tuple") (.ref C) = some false) (b7 : kitOne K (.type "dict") (.ref C) = some false) : OwnC K C :=
  { cl := ⟨pg, hd, po, sa⟩, ha := ha, hn := hn, ht := ht, hm := hm, self := k1, base := fun t ht => by
      simp only [List.mem_cons, List.not_mem_nil, or_false] at ht
      rcases ht with rfl | rfl | rfl | rfl | rfl | rfl | rfl <;> assumption }
theorem nf_mk {K : Frag} {C : Addr} (b1 : notFirst K C (.type "NoneType") = true) (b2 : notFirst K C (.type "bool") = true) (b3 : notFirst K C (.type "int") = true) (b4 : notFirst K C (.type "str") = true) (b5 : notFirst K C (.type "list") = true) (b6 : notFirst K C (.type "tuple") = true) (b7 : notFirst K C (.type "dict") = true) :
    ∀ t, t ∈ ["NoneType", "bool", "int", "str", "list", "tuple", "dict"] → notFirst K C (.type t) = true := fun t ht => by
  simp only [List.mem_cons, List.not_mem_nil, or_false] at ht
  rcases ht with rfl | rfl | rfl | rfl | rfl | rfl | rfl <;> assumption
theorem cx_none {P : Program} {w : World} {H : Hp} {s s' : Shared} {e : Value} (z : L2.CX P w [] H s (fun _ _ _ => False) e s') : False := by
  obtain ⟨_, _, _, _, _, _, _, _, _, _, _, _, h⟩ := z
  exact h
end Wm
namespace Wm
open PySem L2 PySem.Spec
open PyProof.Rows hiding St
def rOr (r1 r2 : R2) : R2 := fun x y H Q => r1 x y H Q ∨ r2 x y H Q
def iOr (w1 w2 : TI) : TI := fun σ H R => w1 σ H R ∨ w2 σ H R
section
variable {X : Cx} {D : Ends} {σ : St} {H : Hp} {Q : VK} {K : PySem.W.Frag}
def lcEnd (g : TG) (tt : TT) (te : TE) (vs : List Nat) (σ : St) (Q : VK) : It → Hp → Prop := fun J H1 => ∀ D, H1 D = none → ∃ W : Nat → Nat → Hp → Prop, (∃ m, W 0 m (upd H1 D (.lst []))) ∧ ∀ i m H, W i m H →
  (J.stop i H ∧ Q (.ref D) H) ∨ (J.go i H ∧ ∃ Nx : Hp → Prop, (∀ H', Nx H' → ∃ m', m' < m ∧ W (i + 1) m' H') ∧ ∀ x H', J.yld i H x H' → g x (wipe σ vs) H' fun σ2 H2 => wipe σ2 vs = wipe σ vs ∧ tt σ2 H2 fun b H3 =>
    if b = true then te σ2 H3 fun y H4 => ∃ acc, H4 D = some (.lst acc) ∧ acc.length < sizeLine ∧ Nx (upd H4 D (.lst (acc ++ [y]))) else Nx H3)
theorem r_lc {wi : TI} {g : TG} {tt : TT} {te : TE} {vs : List Nat} (h : wi σ H (lcEnd g tt te vs σ Q)) : tLc wi g tt te vs σ H Q := h
theorem same_seqT {H H' : Hp} {a : Addr} {xs : List V} (e : Same H H') (h : SqT K H a xs) : SqT K H' a xs := by
  rcases h with (h | ⟨o, h⟩) | h
  · exact .inl (.inl (e _ _ h))
  · exact .inl (.inr ⟨o, e _ _ h⟩)
  · exact .inr h
theorem wipe_set1 {i : Nat} {x : Option V} : wipe ((wipe σ [i]).set i x) [i] = wipe σ [i] := by
  show ((σ.set i none).set i x).set i none = σ.set i none
  rw [List.set_set, List.set_set]
theorem take_more {α : Type} : ∀ {l : List α} {i : Nat} {x : α}, l[i]? = some x → l.take (i + 1) = l.take i ++ [x]
  | [], i, x, h => by simp at h
  | a :: l, 0, x, h => by
    cases Option.some.inj h
    rfl
  | a :: l, i + 1, x, h => by
    have ih := take_more (l := l) (i := i) (x := x) h
    show a :: l.take (i + 1) = a :: l.take i ++ [x]
    rw [ih]
    rfl
theorem len_filt {α : Type} {l : List α} {p : α → Bool} {i : Nat} {x : α} (h : l[i]? = some x) : ((l.take i).filter p).length < l.length := by
  have h1 := List.length_filter_le p (l.take i)
  have h2 : i < l.length := by
    rcases Nat.lt_or_ge i l.length with z | z
    · exact z
    · rw [List.getElem?_eq_none z] at h
      cases h
  rw [List.length_take] at h1
  omega
def LcTurn (tt : TT) (te : TE) (i : Nat) (σ : St) (H1 : Hp) (p : V → Bool) (f : V → V) (x : V) : Prop :=
  (∀ (H' : Hp) (R : Bool → Hp → Prop), Same H1 H' → R (p x) H' → tt ((wipe σ [i]).set i (some x)) H' R) ∧ ∀ (H' : Hp) (R : VK), p x = true → Same H1 H' → R (f x) H' → te ((wipe σ [i]).set i (some x)) H' R
theorem lc_turn {tt : TT} {te : TE} {i : Nat} {H1 H' : Hp} {p : V → Bool} {f : V → V} {xs : List V} {x : V} {j : Nat} {D : Addr} (hz : xs.length ≤ sizeLine) (hD : H1 D = none) (hj : xs[j]? = some x) (t : LcTurn tt te i σ H1 p f x) (s : Same H1 H') (e : H' D = some (.lst (((xs.take j).filter p).map f))) :
    gName i x (wipe σ [i]) H' fun σ2 H2 => wipe σ2 [i] = wipe σ [i] ∧ tt σ2 H2 fun b H3 => if b = true then te σ2 H3 fun y H4 => ∃ acc, H4 D = some (.lst acc) ∧ acc.length < sizeLine ∧ (Same H1 (upd H4 D (.lst (acc ++ [y]))) ∧ upd H4 D (.lst (acc ++ [y])) D = some (.lst (((xs.take (j + 1)).filter p).map f))) else Same H1 H3 ∧ H3 D = some (.lst (((xs.take (j + 1)).filter p).map f)) := by
  refine ⟨wipe_set1, t.1 H' _ s ?_⟩
  cases hp : p x with
  | true =>
    refine iteT (t.2 H' _ hp s ⟨_, e, ?_, same_put s hD, ?_⟩)
    · rw [List.length_map]
      exact Nat.lt_of_lt_of_le (len_filt hj) hz
    · rw [upd_same, take_more hj, List.filter_append, List.map_append]
      simp [hp]
  | false =>
    refine iteF ⟨s, ?_⟩
    rw [e, take_more hj, List.filter_append, List.map_append]
    simp [hp]
theorem r_lcL {tt : TT} {te : TE} {i : Nat} {a : Addr} {xs : List V} (p : V → Bool) (f : V → V) (hS : SqL K H a xs) (hz : xs.length ≤ sizeLine) (ht : ∀ (j : Nat) (x : V), xs[j]? = some x → LcTurn tt te i σ H p f x)
    (k : ∀ q H', H q = none → Same H H' → H' q = some (.lst ((xs.filter p).map f)) → Q (.ref q) H') : lcEnd (gName i) tt te [i] σ Q (Itl K a) H := fun D hD =>
  lc_list (K := K) (a := a) (xs := xs) (fun j H' => Same H H' ∧ H' D = some (.lst (((xs.take j).filter p).map f))) ⟨same_new hD, upd_same⟩ (fun j H' _ h => h.1.seq hS) (fun j x H' hj h => lc_turn hz hD hj (ht j x hj) h.1 h.2)
    fun H' h => k D H' hD h.1 (by rw [h.2, List.take_length])
theorem pi_or {tg iter : Expr} {w1 w2 : TI} (h1 : PI X tg iter w1) (h2 : PI X tg iter w2) : PI X tg iter (iOr w1 w2) := ⟨fun pins s σ H R I h => h.elim (h1.run pins s σ H R I) (h2.run pins s σ H R I)⟩
def rAddS : R2 := fun x y H Q => ∃ i j, x = .str i ∧ y = .str j ∧ i.length + j.length ≤ sizeLine ∧ Q (.str (i ++ j)) H
theorem op_addS : OpR X (binaryOp .Add) rAddS := op_add_str
theorem r_addS {a b : Str} (hz : a.length + b.length ≤ sizeLine) (q : Q (.str (a ++ b)) H) : rAddS (.str a) (.str b) H Q := ⟨a, b, rfl, rfl, hz, q⟩
theorem r_extend {p q : Addr} {xs ys : List V} (h : H p = some (.lst xs)) (h' : H q = some (.lst ys)) (hz : xs.length + ys.length ≤ sizeLine) (k : Q .non (upd H p (.lst (xs ++ ys)))) : rExtend (.ref p) [.ref q] H Q := ⟨p, q, xs, ys, rfl, rfl, h, h', hz, k⟩
def tMethT (C : Addr) (m : Str) (sp : Sp) (E : St → XK) (ta : TE) (t : TA) : TE := fun σ H Q => ta σ H fun x H1 => ∃ a dx fs, x = .ref a ∧ H1 a = some (.ins C dx fs) ∧ fs.lookup m = none ∧ t σ H1 fun vs H2 => sp (x :: vs) H2 Q (E σ)
def methE (C : Addr) (m : Str) (R : V → Hp → Prop) : V → Hp → Prop := fun x H1 => ∃ a dx fs, x = .ref a ∧ H1 a = some (.ins C dx fs) ∧ fs.lookup m = none ∧ R x H1
theorem r_meth {C : Addr} {m : Str} {sp : Sp} {dvs : List V} {E : XK} {ta : TE} {t : TA} (h : ta σ H (methE C m fun x H1 => t σ H1 fun vs H2 => sp (x :: (vs ++ dvs)) H2 Q E)) : tMeth C m sp dvs E ta t σ H Q := h
theorem r_methT {C : Addr} {m : Str} {sp : Sp} {E : St → XK} {ta : TE} {t : TA} (h : ta σ H (methE C m fun x H1 => t σ H1 fun vs H2 => sp (x :: vs) H2 Q (E σ))) : tMethT C m sp E ta t σ H Q := h
theorem r_methK {p C dx : Addr} {m : Str} {fs : List (Str × V)} {R : V → Hp → Prop} (h : H p = some (.ins C dx fs)) (e : fs.lookup m = none) (q : R (.ref p) H) : methE C m R (.ref p) H := ⟨p, dx, fs, rfl, h, e, q⟩
end
end Wm
namespace Wm
open PySem L2
def MARKSl : List Str := ["none", "way", "lasting"]
def ACTSl : List Str := ["ring", "skip", "refuse"]
def BYl : List Str := ["same", "equal"]
def KEEPSl : List Str := ["none", "ahead", "behind"]
def FLAGSl : List Str := ["here", "left", "twin here", "twin left"]
def plain5 (m a b k e : Str) : List Str := [m, if m = "none" then "ring" else a, if m = "none" then "same" else b, k, if k = "none" then "same" else e]
def okv (v : V) (cs : List Str) : Bool := match v with
  | .str x => decide (x ∈ cs)
  | _ => false
def AnyV (H : Hp) : V → Prop
  | .non => True
  | .bl _ => True
  | .int _ => True
  | .str _ => True
  | .ref a => (∃ xs, H a = some (.lst xs)) ∨ (∃ xs, H a = some (.tup xs)) ∨ ∃ kvs, H a = some (.dK kvs)
  | _ => False
theorem AnyV.ty {K : PySem.W.Frag} {H : Hp} {v : V} (h : AnyV H v) : ∃ t, TyX K H v (.type t) ∧ t ∈ ["NoneType", "bool", "int", "str", "list", "tuple", "dict"] ∧ (t = "str" ↔ ∃ x, v = .str x) := by
  cases v with
  | non => exact ⟨_, .base .non, by simp, by simp⟩
  | bl b => exact ⟨_, .base (.bl b), by simp, by simp⟩
  | int i => exact ⟨_, .base (.int i), by simp, by simp⟩
  | str x => exact ⟨_, .base (.str x), by simp, by simp⟩
  | ref a =>
    rcases h with ⟨xs, h⟩ | ⟨xs, h⟩ | ⟨kvs, h⟩
    · exact ⟨_, .base (.lst h), by simp, by simp⟩
    · exact ⟨_, .base (.tup h), by simp, by simp⟩
    · exact ⟨_, .base (.dK h), by simp, by simp⟩
  | _ => exact h.elim
theorem AnyV.isStr {K : PySem.W.Frag} {H : Hp} {v : V} (h : AnyV H v) : ∃ t b, TyX K H v (.type t) ∧ kitB t "str" = some b ∧ (b = true ↔ ∃ x, v = .str x) := by
  obtain ⟨t, h1, h2, h3⟩ := h.ty (K := K)
  simp only [List.mem_cons, List.not_mem_nil, or_false] at h2
  rcases h2 with rfl | rfl | rfl | rfl | rfl | rfl | rfl
  all_goals first
    | exact ⟨_, true, h1, by decide +kernel, by simpa using h3⟩
    | exact ⟨_, false, h1, by decide +kernel, by simpa using h3⟩
def spBit : Sp := fun vs H Q _ => ∃ (p c : Addr) (b : Int), vs = [.ref p, .int b] ∧ PenAt H p c ∧ 0 < b ∧ b < 2 ^ 100 ∧ ∀ r H', PenStep p c H H' → Q (.bl r) H'
theorem r_bit {H : Hp} {Q : VK} {E : XK} {p c : Addr} {b : Int} (h : PenAt H p c) (hb : 0 < b) (hb2 : b < 2 ^ 100) (k : ∀ r H', PenStep p c H H' → Q (.bl r) H') : spBit ([.ref p, .int b] ++ []) H Q E := ⟨p, c, b, rfl, h, hb, hb2, k⟩
def OddV (p : Addr) (H : Hp) (v : V) : Prop := AnyV H v ∧ v ≠ .ref p
def gfs (l : List Str) : List (Str × V) := [("mark", .str (l.getD 0 "")), ("act", .str (l.getD 1 "")), ("by", .str (l.getD 2 "")), ("keep", .str (l.getD 3 "")), ("keep_by", .str (l.getD 4 ""))]
theorem AnyV.same {v : V} {H H' : Hp} (h : AnyV H v) (s : Same H H') : AnyV H' v := by
  cases v with
  | ref a =>
    rcases h with ⟨xs, h⟩ | ⟨xs, h⟩ | ⟨xs, h⟩
    · exact .inl ⟨xs, s _ _ h⟩
    · exact .inr (.inl ⟨xs, s _ _ h⟩)
    · exact .inr (.inr ⟨xs, s _ _ h⟩)
  | _ => exact h
def Any5 (H : Hp) (v0 v1 v2 v3 v4 : V) : Prop := AnyV H v0 ∧ AnyV H v1 ∧ AnyV H v2 ∧ AnyV H v3 ∧ AnyV H v4
theorem Any5.same {v0 v1 v2 v3 v4 : V} {H H' : Hp} (h : Any5 H v0 v1 v2 v3 v4) (s : Same H H') : Any5 H' v0 v1 v2 v3 v4 := ⟨h.1.same s, h.2.1.same s, h.2.2.1.same s, h.2.2.2.1.same s, h.2.2.2.2.same s⟩
theorem AnyV.step {p c : Addr} {H H' : Hp} {v : V} (h : AnyV H v) (n : v ≠ .ref p) (s : PenStep p c H H') : AnyV H' v := by
  cases v with
  | ref a =>
    have n' : a ≠ p := fun z => n (by rw [z])
    rcases h with ⟨xs, h⟩ | ⟨xs, h⟩ | ⟨xs, h⟩
    · exact .inl ⟨xs, s.keep _ _ n' h⟩
    · exact .inr (.inl ⟨xs, s.keep _ _ n' h⟩)
    · exact .inr (.inr ⟨xs, s.keep _ _ n' h⟩)
  | _ => exact h
theorem OddV.step {p c : Addr} {H H' : Hp} {v : V} (h : OddV p H v) (s : PenStep p c H H') : OddV p H' v := ⟨h.1.step h.2 s, h.2⟩
theorem OddV.same {p : Addr} {H H' : Hp} {v : V} (h : OddV p H v) (s : Same H H') : OddV p H' v := ⟨h.1.same s, h.2⟩
theorem OddV.put {p q : Addr} {H : Hp} {v : V} {xs : List V} (h : OddV p H v) : OddV p (upd H q (.lst xs)) v := by
  refine ⟨?_, h.2⟩
  obtain ⟨h, _⟩ := h
  cases v with
  | ref a =>
    by_cases e : a = q
    · subst e
      exact .inl ⟨xs, upd_same⟩
    · rcases h with ⟨ys, h⟩ | ⟨ys, h⟩ | ⟨ys, h⟩
      · exact .inl ⟨ys, by rw [upd_ne e]; exact h⟩
      · exact .inr (.inl ⟨ys, by rw [upd_ne e]; exact h⟩)
      · exact .inr (.inr ⟨ys, by rw [upd_ne e]; exact h⟩)
  | _ => exact h
def spLaw (K : PySem.W.Frag) : Sp := fun vs H Q _ => ∃ (a : Addr) (ns : List Int), vs = [.ref a] ∧ SqL K H a (ns.map V.int) ∧ ∀ H', Q (.bl true) H'
theorem at_n {xs : List V} {i : Nat} {v : V} (h : xs[i]? = some v) : atI xs (0 + (i : Int)) = some v := by
  rw [Int.zero_add]
  exact atI_nat h
theorem filt_true {α : Type} {l : List α} : l.filter (fun _ => true) = l := List.filter_eq_self.mpr fun _ _ => rfl
def SqA (K : PySem.W.Frag) (H : Hp) (t : Addr) (xs : List V) : Prop := SqL K H t xs ∨ SqT K H t xs
theorem SqA.same {K : PySem.W.Frag} {H H' : Hp} {t : Addr} {xs : List V} (h : SqA K H t xs) (s : Same H H') : SqA K H' t xs := h.imp (fun h => s.seq h) (fun h => same_seqT s h)
def SelfEq (K : PySem.W.Frag) (H : Hp) (v : V) : Prop := (∃ d, Dp K H v d ∧ d.plain = true ∧ d.depth ≤ 64) ∨ ∃ a ks, v = .ref a ∧ H a = some (.dK ks) ∧ ∀ p ∈ ks, valV ks p.1 = some p.2 ∧ flatB p.2 = true
mutual
theorem dp_same {K : PySem.W.Frag} {H H' : Hp} (s : Same H H') : ∀ {v : V} {d : PyData}, Dp K H v d → Dp K H' v d
  | _, _, .non => .non
  | _, _, .bl b => .bl b
  | _, _, .int i => .int i
  | _, _, .str x => .str x
  | _, _, .lst h k => .lst (s.seq h) (dps_same s k)
  | _, _, .tup h k => .tup (same_seqT s h) (dps_same s k)
theorem dps_same {K : PySem.W.Frag} {H H' : Hp} (s : Same H H') : ∀ {vs : List V} {ds : List PyData}, DpAll K H vs ds → DpAll K H' vs ds
  | _, _, .nil => .nil
  | _, _, .cons h k => .cons (dp_same s h) (dps_same s k)
end
theorem SelfEq.same {K : PySem.W.Frag} {H H' : Hp} {v : V} (h : SelfEq K H v) (s : Same H H') : SelfEq K H' v := by
  rcases h with ⟨d, h, a, b⟩ | ⟨a, ks, e, h, k⟩
  · exact .inl ⟨d, dp_same s h, a, b⟩
  · exact .inr ⟨a, ks, e, s _ _ h, k⟩
theorem SelfEq.eq {K : PySem.W.Frag} {H H' : Hp} {v : V} {Q : VK} (h : SelfEq K H v) (s : Same H H') (q : Q (.bl true) H') : rOr (rEqP K) (rEqV K) v v H' Q := by
  rcases h.same s with ⟨d, h, a, b⟩ | ⟨a, ks, rfl, h, k⟩
  · refine .inl ⟨d, d, h, h, a, a, b, ?_⟩
    rw [SeqAt.eqv_refl_plain d a]
    exact q
  · exact .inr ⟨1, by decide, .inr ⟨a, a, ks, ks, rfl, rfl, h, h, rfl, fun p hp => ⟨p.2, (k p hp).1, .inl ⟨rfl, (k p hp).2⟩⟩⟩, q⟩
end Wm
namespace Wm
open PySem PySem.SeqAt PyProof.Rows PySem.Spec PySem.Calls
section
variable {A : Around} {s : Shared}
end
section
open L2
variable {X : Cx} {pins : List (Addr × Obj)} {σ : L2.St} {H : Hp} {s : Shared}
end
section
open L2
variable {D : Ends} {σ : L2.St} {H : Hp} {Q : VK} {K : PySem.W.Frag}
def slEnd (r : V → Option Int → Option Int → Hp → VK → Prop) (Q : VK) (x : V) (lo : Option Int) : Option Int → Hp → Prop := fun hi H3 => r x lo hi H3 Q
theorem r_slice {r : V → Option Int → Option Int → Hp → VK → Prop} {te : TE} {tl th : TO} (h : te σ H fun x H1 => tl σ H1 fun lo H2 => th σ H2 (slEnd r Q x lo)) : tSl r te tl th σ H Q := h
theorem r_nopart {R : Option Int → Hp → Prop} (h : R none H) : tNoPart σ H R := h
theorem r_part {te : TE} {R : Option Int → Hp → Prop} (h : te σ H fun x H1 => ∃ i, x = .int i ∧ R (some i) H1) : tPart te σ H R := h
theorem r_partI {i : Int} {R : Int → Prop} (q : R i) : ∃ j, V.int i = .int j ∧ R j := ⟨i, rfl, q⟩
theorem r_slL {p : Addr} {xs : List V} {lo hi : Option Int} (h : H p = some (.lst xs)) (k : ∀ q H', H q = none → Same H H' → H' q = some (.lst (cutV xs lo hi)) → Q (.ref q) H') : slEnd (rSlL K) Q (.ref p) lo hi H := ⟨p, xs, rfl, SqL.of h, fun q n => k q _ n (same_new n) upd_same⟩
structure GoodV (K : PySem.W.Frag) (p fr : Addr) (H : Hp) (v : V) : Prop where
  odd : OddV p H v
  sf : ∃ G : Hp, SelfEq K G v ∧ ∀ b o, G b = some o → b ≠ p ∧ b ≠ fr ∧ H b = some o
  kind : okv v FLAGSl = false ∨ ∃ x, v = .str x ∧ x ∈ (["here", "left", "twin left"] : List Str)
theorem GoodV.self {p fr : Addr} {v : V} (h : GoodV K p fr H v) : SelfEq K H v := by
  obtain ⟨G, a, b⟩ := h.sf
  exact a.same fun c o e => (b c o e).2.2
theorem GoodV.step {p c fr : Addr} {H' : Hp} {v : V} (h : GoodV K p fr H v) (s : PenStep p c H H') : GoodV K p fr H' v := by
  obtain ⟨G, a, b⟩ := h.sf
  exact ⟨h.odd.step s, ⟨G, a, fun c o e => ⟨(b c o e).1, (b c o e).2.1, s.keep c o (b c o e).1 (b c o e).2.2⟩⟩, h.kind⟩
theorem GoodV.same {p fr : Addr} {H' : Hp} {v : V} (h : GoodV K p fr H v) (s : Same H H') : GoodV K p fr H' v := by
  obtain ⟨G, a, b⟩ := h.sf
  exact ⟨h.odd.same s, ⟨G, a, fun c o e => ⟨(b c o e).1, (b c o e).2.1, s c o (b c o e).2.2⟩⟩, h.kind⟩
theorem GoodV.put {p fr : Addr} {v : V} {xs : List V} (h : GoodV K p fr H v) : GoodV K p fr (upd H fr (.lst xs)) v := by
  obtain ⟨G, a, b⟩ := h.sf
  exact ⟨h.odd.put, ⟨G, a, fun c o e => ⟨(b c o e).1, (b c o e).2.1, by rw [upd_ne (b c o e).2.1]; exact (b c o e).2.2⟩⟩, h.kind⟩
end
section
open L2
variable {H : Hp} {Q : VK} {K : PySem.W.Frag}
end
end Wm
namespace PySem.W
open PySem PySem.Spec PySem.Calls PyProof.Rows
section
variable {prog : Program} {w : World} {A : Around} {E : Value → Shared → Prop} {s : Shared} {K : Frag} {x D : Addr} {ox : Obj} {od : Option Obj}
end
end PySem.W
namespace L2
open PySem PySem.Spec PyProof.Rows
def ErO (C : Addr) (d : Option Addr) (a : Addr) : HO := .ext fun h => ∃ (oe : Obj) (vs : Array Value), h.get? a = some oe ∧ Zc (.ref C) d oe ∧ oe.data = .fields vs
section
variable {X : Cx} {C : Addr} {qual : Str} {fs : List Str}
def tErV (C : Addr) (fs : List Str) (ta : TA) : TE := fun σ H Q => ta σ H fun vs H1 => vs.length = fs.length ∧ vs.length ≤ 1000 ∧ (fs = [] → ∀ a, H1 a = none → Q (.ref a) (upd H1 a (ErO C none a))) ∧
  (fs ≠ [] → ∀ a d, H1 a = none → H1 d = none → d ≠ a → Q (.ref a) (upd (upd H1 d (.xd (fs.zip vs))) a (ErO C (some d) a)))
section
variable {x : Str} {p pos : Pos} {e : Expr} {es : List Expr} {ta : TA} {k : Nat}
end
def tErF (K : PySem.W.Frag) (f : Str) (te : TE) : TE := fun σ H Q => te σ H fun x H1 => ∃ (a C dd : Addr) (fs : List (Str × V)) (v : V), x = .ref a ∧ H1 a = some (ErO C (some dd) a) ∧ XfC K C ∧ PySem.W.findIn K (.ref C) f = some none ∧ H1 dd = some (.xd fs) ∧ fs.lookup f = some v ∧ Q v H1
end
end L2
namespace Wm
open PySem L2
section
variable {D : Ends} {σ : L2.St} {H : Hp} {Q : VK} {K : PySem.W.Frag}
def ervEnd (C : Addr) (fs : List Str) (Q : VK) : List V → Hp → Prop := fun vs H1 => vs.length = fs.length ∧ vs.length ≤ 1000 ∧ (fs = [] → ∀ a, H1 a = none → Q (.ref a) (upd H1 a (ErO C none a))) ∧
  (fs ≠ [] → ∀ a d, H1 a = none → H1 d = none → d ≠ a → Q (.ref a) (upd (upd H1 d (.xd (fs.zip vs))) a (ErO C (some d) a)))
theorem r_erV {C : Addr} {fs : List Str} {ta : TA} (h : ta σ H (ervEnd C fs Q)) : tErV C fs ta σ H Q := h
theorem r_erVE {C : Addr} {fs : List Str} {vs : List V} (l : vs.length = fs.length) (l2 : vs.length ≤ 1000) (hn : fs ≠ []) (k : ∀ a d H', H a = none → Same H H' → H' a = some (ErO C (some d) a) → H' d = some (.xd (fs.zip vs)) → Q (.ref a) H') : ervEnd C fs Q vs H :=
  ⟨l, l2, fun z => absurd z hn, fun _ a d na nd ne => k a d _ na (same_put (same_new nd) na) upd_same (by rw [upd_ne ne]; exact upd_same)⟩
theorem r_erVE0 {C : Addr} (k : ∀ a H', H a = none → Same H H' → H' a = some (ErO C none a) → Q (.ref a) H') : ervEnd C [] Q [] H := ⟨rfl, Nat.zero_le _, fun _ a na => k a _ na (same_new na) upd_same, fun z => absurd rfl z⟩
def erfE (K : PySem.W.Frag) (f : Str) (Q : VK) : VK := fun x H1 => ∃ (a C dd : Addr) (fs : List (Str × V)) (v : V), x = .ref a ∧ H1 a = some (ErO C (some dd) a) ∧ XfC K C ∧ PySem.W.findIn K (.ref C) f = some none ∧ H1 dd = some (.xd fs) ∧ fs.lookup f = some v ∧ Q v H1
theorem r_erF {f : Str} {te : TE} (h : te σ H (erfE K f Q)) : tErF K f te σ H Q := h
theorem r_erFK {a C dd : Addr} {fs : List (Str × V)} {f : Str} {v : V} (h : H a = some (ErO C (some dd) a)) (T : XfC K C) (n : PySem.W.findIn K (.ref C) f = some none) (h' : H dd = some (.xd fs)) (e : fs.lookup f = some v) (q : Q v H) : erfE K f Q (.ref a) H := ⟨a, C, dd, fs, v, rfl, h, T, n, h', e, q⟩
def AnyL (H : Hp) : V → Prop
  | .non => True
  | .bl _ => True
  | .int _ => True
  | .str _ => True
  | .ref a => (∃ xs, H a = some (.lst xs)) ∨ ∃ xs, H a = some (.tup xs)
  | _ => False
structure PlainV (K : PySem.W.Frag) (H : Hp) (v : V) : Prop where
  dat : ∃ d, Dp K H v d ∧ d.plain = true ∧ d.depth ≤ 64
  any : AnyL H v
theorem AnyL.ty {v : V} (h : AnyL H v) : ∃ t, TyX K H v (.type t) ∧ t ∈ ["NoneType", "bool", "int", "str", "list", "tuple"] := by
  cases v with
  | non => exact ⟨_, .base .non, by simp⟩
  | bl b => exact ⟨_, .base (.bl b), by simp⟩
  | int i => exact ⟨_, .base (.int i), by simp⟩
  | str x => exact ⟨_, .base (.str x), by simp⟩
  | ref a =>
    rcases h with ⟨xs, h⟩ | ⟨xs, h⟩
    · exact ⟨_, .base (.lst h), by simp⟩
    · exact ⟨_, .base (.tup h), by simp⟩
  | _ => exact h.elim
theorem PlainV.same {H' : Hp} {v : V} (h : PlainV K H v) (s : Same H H') : PlainV K H' v := by
  obtain ⟨⟨d, a, b⟩, c⟩ := h
  refine ⟨⟨d, dp_same s a, b⟩, ?_⟩
  cases v with
  | ref a =>
    rcases c with ⟨xs, c⟩ | ⟨xs, c⟩
    · exact .inl ⟨xs, s _ _ c⟩
    · exact .inr ⟨xs, s _ _ c⟩
  | _ => exact c
theorem seqL_step {p c a : Addr} {H' : Hp} {xs : List V} (hp : PenAt H p c) (s : PenStep p c H H') (h : SqL K H a xs) : SqL K H' a xs := by
  rcases h with (h | ⟨o, h⟩) | h
  · exact .inl (.inl (s.at hp h rfl))
  · exact .inl (.inr ⟨o, s.at hp h rfl⟩)
  · exact .inr h
theorem seqT_step {p c a : Addr} {H' : Hp} {xs : List V} (hp : PenAt H p c) (s : PenStep p c H H') (h : SqT K H a xs) : SqT K H' a xs := by
  rcases h with (h | ⟨o, h⟩) | h
  · exact .inl (.inl (s.at hp h rfl))
  · exact .inl (.inr ⟨o, s.at hp h rfl⟩)
  · exact .inr h
mutual
theorem dp_step {p c : Addr} {H' : Hp} (hp : PenAt H p c) (s : PenStep p c H H') : ∀ {v : V} {d : PyData}, Dp K H v d → Dp K H' v d
  | _, _, .non => .non
  | _, _, .bl b => .bl b
  | _, _, .int i => .int i
  | _, _, .str x => .str x
  | _, _, .lst h k => .lst (seqL_step hp s h) (dps_step hp s k)
  | _, _, .tup h k => .tup (seqT_step hp s h) (dps_step hp s k)
theorem dps_step {p c : Addr} {H' : Hp} (hp : PenAt H p c) (s : PenStep p c H H') : ∀ {vs : List V} {ds : List PyData}, DpAll K H vs ds → DpAll K H' vs ds
  | _, _, .nil => .nil
  | _, _, .cons h k => .cons (dp_step hp s h) (dps_step hp s k)
end
theorem PlainV.step {p c : Addr} {H' : Hp} {v : V} (h : PlainV K H v) (hp : PenAt H p c) (s : PenStep p c H H') : PlainV K H' v := by
  obtain ⟨⟨d, a, b⟩, e⟩ := h
  refine ⟨⟨d, dp_step hp s a, b⟩, ?_⟩
  cases v with
  | ref a =>
    rcases e with ⟨xs, e⟩ | ⟨xs, e⟩
    · exact .inl ⟨xs, s.at hp e rfl⟩
    · exact .inr ⟨xs, s.at hp e rfl⟩
  | _ => exact e
end
theorem r_cat {H : Hp} {Q : VK} {p q : Addr} {xs ys : List V} (h : H p = some (.lst xs)) (h' : H q = some (.lst ys)) (hz : xs.length + ys.length ≤ sizeLine) (k : ∀ r H', H r = none → Same H H' → H' r = some (.lst (xs ++ ys)) → Q (.ref r) H') : rCat (.ref p) (.ref q) H Q := ⟨p, q, xs, ys, rfl, rfl, h, h', hz, fun r n => k r _ n (same_new n) upd_same⟩
end Wm
namespace Wm
open PySem L2 PySem.Spec
open PyProof.Rows hiding St
def rSplit : V → List V → Hp → VK → Prop := fun x xs H Q => ∃ a b, x = .str a ∧ xs = [.str b] ∧ (b.length == 0) = false ∧ a.length + 2 ≤ sizeLine ∧ rNewStrs (Txt.split a b) H Q
def rJoin (K : PySem.W.Frag) : V → List V → Hp → VK → Prop := fun x xs H Q => ∃ a p, ∃ ys : List Str, x = .str a ∧ xs = [.ref p] ∧ (SqL K H p (ys.map V.str) ∨ SqT K H p (ys.map V.str)) ∧ (ys.map (·.length)).sum + ys.length * a.length ≤ 16777216 ∧ Q (.str (Txt.join a ys)) H
theorem mtJoin {X : Cx} : MtR X "str.join" (rJoin X.K) := mt_join
section
variable {D : Ends} {σ : St} {H : Hp} {Q : VK} {K : PySem.W.Frag}
theorem r_split {a b : Str} (hb : (b.length == 0) = false) (hz : a.length + 2 ≤ sizeLine) (k : ∀ p H', H p = none → Same H H' → H' p = some (.lst ((Txt.split a b).map V.str)) → Q (.ref p) H') : rSplit (.str a) [.str b] H Q :=
  ⟨a, b, rfl, rfl, hb, hz, fun p n => k p _ n (same_new n) upd_same⟩
theorem r_join {a : Str} {p : Addr} {xs : List V} (ys : List Str) (h : H p = some (.lst xs)) (e : xs = ys.map V.str) (hz : (ys.map (·.length)).sum + ys.length * a.length ≤ 16777216) (q : Q (.str (Txt.join a ys)) H) : rJoin K (.str a) [.ref p] H Q :=
  ⟨a, p, ys, rfl, rfl, .inl (e ▸ SqL.of h), hz, q⟩
theorem r_tyS {x : Str} {R : Prop} (q : R) : tyV K "str" (.str x) H ∧ R := ⟨rfl, q⟩
theorem r_slT {p : Addr} {xs : List V} {lo hi : Option Int} (h : SqT K H p xs) (hw : ¬ (HT.sIx xs.length 0 lo = 0 ∧ HT.sIx xs.length xs.length hi = xs.length)) (k : ∀ q H', H q = none → Same H H' → H' q = some (.tup (cutV xs lo hi)) → Q (.ref q) H') : slEnd (rSlT K) Q (.ref p) lo hi H := ⟨p, xs, rfl, h, hw, fun q n => k q _ n (same_new n) upd_same⟩
theorem r_slS {z : Str} {lo hi : Option Int} (hz : z.length ≤ sizeLine) (q : Q (.str (cutS z lo hi)) H) : slEnd rSlS Q (.str z) lo hi H := ⟨z, rfl, hz, q⟩
def fmtEnd (Q : VK) : VK := fun x H1 => (∃ y : Str, x = .str y ∧ y.length ≤ sizeLine ∧ Q (.str y) H1) ∨ ∃ i : Int, x = .int i ∧ i.natAbs.log2 < 1920 ∧ Q (.str (toString i)) H1
theorem r_fmt {te : TE} (h : te σ H (fmtEnd Q)) : tFmt te σ H Q := h
theorem r_fmtS {y : Str} (hz : y.length ≤ sizeLine) (q : Q (.str y) H) : fmtEnd Q (.str y) H := .inl ⟨y, rfl, hz, q⟩
def tJoin (ts : List TE) : TE := fun σ H Q => tJs ts Str.empty σ H fun out H1 => Q (.str out) H1
def jsOut (Q : VK) : Str → Hp → Prop := fun out H1 => Q (.str out) H1
def jsEnd (ts : List TE) (acc : Str) (σ : St) (R : Str → Hp → Prop) : VK := fun x H1 => ∃ y : Str, x = .str y ∧ (acc ++ y).length ≤ sizeLine ∧ tJs ts (acc ++ y) σ H1 R
theorem r_joinF {ts : List TE} (h : tJs ts Str.empty σ H (jsOut Q)) : tJoin ts σ H Q := h
theorem r_js0 {acc : Str} (q : Q (.str acc) H) : tJs [] acc σ H (jsOut Q) := q
theorem r_jsC {t : TE} {ts : List TE} {acc : Str} {R : Str → Hp → Prop} (h : t σ H (jsEnd ts acc σ R)) : tJs (t :: ts) acc σ H R := h
theorem r_jsE {ts : List TE} {acc y : Str} {R : Str → Hp → Prop} (hz : (acc ++ y).length ≤ sizeLine) (h : tJs ts (acc ++ y) σ H R) : jsEnd ts acc σ R (.str y) H := ⟨y, rfl, hz, h⟩
def strBk (Q : VK) : VK := fun v H' => (∃ y, v = .str y) ∧ Q v H'
theorem r_strBk {y : Str} (q : Q (.str y) H) : strBk Q (.str y) H := ⟨⟨y, rfl⟩, q⟩
def hid (D : Addr) (H : Hp) : Hp := fun b => if b = D then none else H b
theorem hid_at {D b : Addr} {o : HO} (n : b ≠ D) (e : H b = some o) : hid D H b = some o := by
  unfold hid
  rw [if_neg n]
  exact e
theorem hid_get {D b : Addr} {o : HO} (e : hid D H b = some o) : b ≠ D ∧ H b = some o := by
  unfold hid at e
  by_cases h : b = D
  · rw [if_pos h] at e
    cases e
  · rw [if_neg h] at e
    exact ⟨h, e⟩
inductive All2 {α β : Type} (R : α → β → Prop) : List α → List β → Prop
  | nil : All2 R [] []
  | cons {a : α} {b : β} {l : List α} {m : List β} (h : R a b) (t : All2 R l m) : All2 R (a :: l) (b :: m)
theorem All2.mono {α β : Type} {R S : α → β → Prop} (hm : ∀ a b, R a b → S a b) : ∀ {l : List α} {m : List β}, All2 R l m → All2 S l m
  | _, _, .nil => .nil
  | _, _, .cons h t => .cons (hm _ _ h) (t.mono hm)
theorem All2.snoc {α β : Type} {R : α → β → Prop} {a : α} {b : β} (h : R a b) : ∀ {l : List α} {m : List β}, All2 R l m → All2 R (l ++ [a]) (m ++ [b])
  | _, _, .nil => .cons h .nil
  | _, _, .cons h' t => .cons h' (t.snoc h)
theorem All2.len {α β : Type} {R : α → β → Prop} : ∀ {l : List α} {m : List β}, All2 R l m → l.length = m.length
  | _, _, .nil => rfl
  | _, _, .cons _ t => by simp [t.len]
theorem All2.left {α β : Type} {R : α → β → Prop} : ∀ {l : List α} {m : List β} {i : Nat} {a : α}, All2 R l m → l[i]? = some a → ∃ b, m[i]? = some b ∧ R a b
  | _, _, i, a, .nil, h => by simp at h
  | _, _, 0, a, .cons h t, e => by
    cases e
    exact ⟨_, rfl, h⟩
  | _, _, i + 1, a, .cons h t, e => t.left (i := i) e
theorem All2.right {α β : Type} {R : α → β → Prop} : ∀ {l : List α} {m : List β} {i : Nat} {b : β}, All2 R l m → m[i]? = some b → ∃ a, l[i]? = some a ∧ R a b
  | _, _, i, a, .nil, h => by simp at h
  | _, _, 0, a, .cons h t, e => by
    cases e
    exact ⟨_, rfl, h⟩
  | _, _, i + 1, a, .cons h t, e => t.right (i := i) e
end
section
open ClX
variable {X : Cx} {CX : CXT} {k : Nat} {C p g : Addr} {mc : Value} {sp : Sp} {o e : Expr} {es : List Expr} {m : Str} {pos apos : Pos} {ta : TE} {t : TA} {pl : Sem Bool}
def tCMethT (C : Addr) (sp : Sp) (E : St → XK) (ta : TE) (t : TA) : TE := fun σ H Q => ta σ H fun x H1 => x = .ref C ∧ t σ H1 fun vs H2 => sp (.ref C :: vs) H2 Q (E σ)
theorem r_cmeth {σ : St} {H : Hp} {Q : VK} {E : XK} (h : ta σ H fun x H1 => x = .ref C ∧ t σ H1 fun vs H2 => sp (.ref C :: vs) H2 Q E) : tCMeth C sp E ta t σ H Q := h
theorem r_cmethT {σ : St} {H : Hp} {Q : VK} {E : St → XK} (h : ta σ H fun x H1 => x = .ref C ∧ t σ H1 fun vs H2 => sp (.ref C :: vs) H2 Q (E σ)) : tCMethT C sp E ta t σ H Q := h
theorem r_cmethK {C : Addr} {R : Prop} (q : R) : V.ref C = .ref C ∧ R := ⟨rfl, q⟩
end
section
variable {X : Cx} {CX : CXT} {k n : Nat} {f C : Addr} {fd : FuncData} {ps ks : List Str} {sp : Sp} {E : XK} {x : Str} {p pos : Pos} {e : Expr} {es : List Expr} {kws : List Keyword} {t tk : TA} {g : List Value → List Value → List Value} {gV : List V → List V → List V}
def tMakeKL (i : Nat) (C : Addr) (n m : Nat) (sp : Sp) (gV : List V → List V → List V) (E : XK) (t tk : TA) : TE := fun σ H Q => σ[i]? = some (some (.ref C)) ∧ tMakeK C n m sp gV E t tk σ H Q
theorem r_makeKL {σ : St} {H : Hp} {Q : VK} {i m : Nat} (hs : σ[i]? = some (some (.ref C))) (h : tMakeK C n m sp gV E t tk σ H Q) : tMakeKL i C n m sp gV E t tk σ H Q := ⟨hs, h⟩
end
theorem r_lenS {H : Hp} {Q : VK} {z : Str} (h : z.length ≤ sizeLine) (q : Q (.int z.length) H) : rLenS [.str z] H Q := ⟨z, rfl, h, q⟩
def rIsNn : R2 := fun x y H Q => y = .non ∧ Q (.bl (decide (x = .non))) H
def rNotNn : R2 := fun x y H Q => y = .non ∧ Q (.bl (!decide (x = .non))) H
theorem op_isNn {X : Cx} : OpR X (compareOp .Is) rIsNn := op_isN
section
variable {H : Hp} {Q : VK}
theorem r_isNn {x : V} (q : Q (.bl (decide (x = .non))) H) : rIsNn x .non H Q := ⟨rfl, q⟩
theorem r_notNn {x : V} (q : Q (.bl (!decide (x = .non))) H) : rNotNn x .non H Q := ⟨rfl, q⟩
end
theorem iteT' {b : Bool} {A B : Prop} (e : b = true) (h : A) : if b = true then A else B := by
  rw [if_pos e]
  exact h
theorem iteF' {b : Bool} {A B : Prop} (e : b = false) (h : B) : if b = true then A else B := by
  rw [e]
  exact iteF h
theorem str_ix {ss : List Str} {j : Nat} {x : V} (h : (ss.map V.str)[j]? = some x) : ∃ y, x = .str y ∧ ss[j]? = some y := by
  rw [List.getElem?_map] at h
  cases e : ss[j]? with
  | none =>
    rw [e] at h
    cases h
  | some u =>
    rw [e] at h
    exact ⟨u, (Option.some.inj h).symm, rfl⟩
theorem take_flat {α β : Type} {l : List α} {f : α → List β} {i : Nat} {x : α} (h : l[i]? = some x) : (l.take (i + 1)).flatMap f = (l.take i).flatMap f ++ f x := by
  rw [take_more h, List.flatMap_append]
  simp
theorem take_fold {α β : Type} {l : List α} {f : β → α → β} {b : β} {i : Nat} {x : α} (h : l[i]? = some x) : (l.take (i + 1)).foldl f b = f ((l.take i).foldl f b) x := by
  rw [take_more h, List.foldl_append]
  rfl
def liftS (g : Str → Str) : V → V
  | .str d => .str (g d)
  | v => v
theorem lift_map {g : Str → Str} {ss : List Str} : ((ss.map V.str).filter (fun _ => true)).map (liftS g) = (ss.map g).map V.str := by
  rw [filt_true, List.map_map, List.map_map]
  rfl
end Wm
namespace Wm
open PySem PySem.Spec PyProof.Rows
def nubStep (σ : List Str) (v : Str) : List Str := if σ.any (· == v) = true then σ else σ ++ [v]
def nubS (xs : List Str) : List Str := xs.foldl nubStep []
theorem nub_take {xs : List Str} {i : Nat} {v : Str} (h : xs[i]? = some v) : nubS (xs.take (i + 1)) = nubStep (nubS (xs.take i)) v := take_fold h
theorem nubStep_any (σ : List Str) (v k : Str) : (nubStep σ v).any (· == k) = (σ.any (· == k) || decide (k = v)) := by
  unfold nubStep
  by_cases h : σ.any (· == v) = true
  · rw [if_pos h]
    by_cases e : k = v
    · subst e
      simp [h]
    · simp [e]
  · rw [if_neg h, List.any_append]
    by_cases e : k = v
    · subst e
      simp
    · have hb : ¬ v = k := fun z => e z.symm
      simp [hb, e]
theorem nubStep_len (σ : List Str) (v : Str) : (nubStep σ v).length = if σ.any (· == v) = true then σ.length else σ.length + 1 := by
  unfold nubStep
  split <;> simp
theorem nub_le (xs : List Str) : ∀ i, (nubS (xs.take i)).length ≤ i
  | 0 => by simp [nubS]
  | i + 1 => by
    have ih := nub_le xs i
    cases h : xs[i]? with
    | none =>
      have e : xs.take (i + 1) = xs.take i := by
        rw [List.take_of_length_le (Nat.le_succ_of_le (List.getElem?_eq_none_iff.mp h)), List.take_of_length_le (List.getElem?_eq_none_iff.mp h)]
      rw [e]
      omega
    | some v =>
      rw [nub_take h, nubStep_len]
      split <;> omega
section
variable {prog : Program} {w : World} {A : Around} {Rz : Result → Shared → Prop} {it : Addr} {fp wr : List Addr} {G : Array GenState → Array GenState → Prop} {n : Nat} {Pv : Nat → Value → Prop} {St : Nat → Shared → Prop}
abbrev SetNub (prog : Program) (w : World) (h : Heap) (S : Addr) (xs : List Str) (i : Nat) : Prop := h.SetOf (PySem.strKind prog w) S (fun k => (nubS (xs.take i)).any (· == k)) (nubS (xs.take i)).length
theorem setNub_keep {h h' : Heap} {S : Addr} {xs : List Str} {i : Nat} (z : SetNub prog w h S xs i) (k : ∀ o, h.get? S = some o → h'.get? S = some o) : SetNub prog w h' S xs i := by
  obtain ⟨o, es, ep, tb, ho, more⟩ := z
  exact ⟨o, es, ep, tb, k o ho, more⟩
theorem nub_loop (W : WalksS prog w A.in1 it fp wr G n Pv St) (S : Addr) (hS : S ∉ fp) (xs : List Str) (hz : xs.length = n) (hn : n + 1 < scanBound) (hv : ∀ i v, Pv i v → ∃ x t, xs[i]? = some x ∧ v = .str x t) (d : Nat) :
    ∀ (i : Nat) (s : Shared), n - i = d → i ≤ n → St i s → SetNub prog w s.heap S xs i → (∀ s', Moved (S :: wr) G s s' → SetNub prog w s'.heap S xs n → Rz (.ok (.ret .none)) s') →
      codeAny (model prog w) A (.builtin "set.update.loop" ⟨[.ref S, .ref it], []⟩) Rz s := by
  have nw : S ∉ wr := fun z => hS (W.sub _ z)
  have up : ∀ b ∈ wr, b ∈ S :: wr := fun b z => List.mem_cons_of_mem _ z
  induction d with
  | zero =>
    intro i s hd hi hst hN fin
    obtain rfl : i = n := Nat.le_antisymm hi (Nat.sub_eq_zero_iff_le.mp hd)
    refine codeAny_builtin PyProof.Rows.F.entry_set_update_loop (by rw [Around.under_plainId PyProof.Rows.F.plain_set_update_loop _]; show wpAny _ A.in1 (pyNext (.ref it) >>= _) _ _ s; exact wpAny_bind (W.done s _ _ hst fun s' mv => by show wpAny _ A.in1 (ret Value.none) _ _ s'; exact wpAny_pure (fin s' (mv.mono up) (setNub_keep hN fun o z => mv.heap S o nw z))))
  | succ d ih =>
    intro i s hd hi hst hN fin
    have lt : i < n := Nat.lt_of_sub_ne_zero (by rw [hd]; exact Nat.succ_ne_zero d)
    (refine codeAny_builtin PyProof.Rows.F.entry_set_update_loop ?_; rw [Around.under_plainId PyProof.Rows.F.plain_set_update_loop _]; show wpAny _ A.in1 (pyNext (.ref it) >>= _) _ _ s; refine wpAny_bind (W.item i s _ _ lt hst fun v s1 hP hst1 mv => ?_))
    obtain ⟨x, t, hx, rfl⟩ := hv i v hP
    have hN1 : SetNub prog w s1.heap S xs i := setNub_keep hN fun o z => mv.heap S o nw z
    have room : (nubS (xs.take i)).length + 1 < scanBound := by
      have := nub_le xs i
      omega
    show wpAny _ A.in1 (holding [Value.str x t] (setAdd S (.str x t)) >>= _) _ _ s1
    (refine wpAny_bind (wpAny_holding ?_); unfold setAdd; refine wpAny_holding (wpAny_bind ((PySem.strKind prog w).pyHash (k := x) (strKind_is _ _ _ _) (wpAny_setAddHashed_of (knd := PySem.strKind prog w) (s := { s1 with toks := s1.toks + 1 }) (strKind_is _ _ _ _) rfl hN1 room fun h' sb hN2 => ?_))))
    have hN3 : SetNub prog w h' S xs (i + 1) := SetOf_congr hN2 (fun k => by rw [nub_take hx, nubStep_any]) (by rw [nub_take hx, nubStep_len])
    have off : ∀ b, b ∉ S :: wr → b ≠ S := fun b z e => z (e ▸ List.mem_cons_self)
    refine wpAny_pure ⟨plainId_quiet PyProof.Rows.F.plain_set_update_loop _, ih (i + 1) _ (by omega) lt (W.frame _ s1 _ _ hst1 (Nat.le_succ _) fun b hb o z => (sb.2 b fun e : b = S => hS (e ▸ hb)).trans z) hN3 fun s2 mv2 hN4 => fin s2 (Moved.trans W.gtrans ((mv.mono up).then_heap (Nat.le_succ _) fun b o hb z => (sb.2 b (off b hb)).trans z) mv2) hN4⟩
end
section
variable {prog : Program} {w : World} {A : Around} {E : Value → Shared → Prop} {s : Shared}
theorem set_of_list {l : Addr} {its : Array Value} {xs : List Str} {Q : Value → Shared → Prop} (hh : A.handled = none) (hl : s.heap.IsList l its) (hi : PyProof.Rows.StrsAre its.toList xs) (hb : xs.length + 1 < scanBound)
    (h : ∀ (h' : Heap) (tk : Nat), SetNub prog w h' s.heap.objs.size xs xs.length → (∀ b o, b < s.heap.objs.size → s.heap.get? b = some o → h'.get? b = some o) → Q (.ref s.heap.objs.size) { s with heap := h', toks := tk }) : wpAny (model prog w) A (call (.type "set") [.ref l]) Q E s := by
  obtain ⟨c0, tl0, hm0⟩ := PySem.F.called_set.mro
  have f1 := PySem.F.called_set.made; have f2 := PySem.F.called_set.sub; have f3 := PySem.F.called_set.notType; have f4 := PySem.F.called_set.canCreate; have f5 := PySem.F.typeCall_set_1 (.ref l)
  have hsz : xs.length = its.size := by rw [← StrsAre.len_eq hi, Array.length_toList]
  (refine wpAny_call (codeAny_of_tree ?_); show wpAny _ _ (callAny (.type "set") _) _ _ _; refine wpAny_pure ⟨Code.quiet_builtin _ (by decide +kernel), codeAny_builtin PySem.F.entry_type_call ?_⟩; rw [Around.under_plain (weight_type_call_type "set" [.ref l] []) rfl])
  (repeat (any_goals (first | assumption | wp_step)))
  refine codeAny_mono (code_set_new_1 (.ref l) (E := E) (Q₁ := fun ob s1 => ∃ led : Bool, ob = .ref s.heap.objs.size ∧ s1 = { s with heap := s.heap.push { cls := .type "set", dict := none, data := .set #[] 0 (.fresh 0 0 led) } }) fun led => ⟨led, rfl, rfl⟩) fun rr s1 hr => ?_
  match rr, hr with
  | .error e, hr => exact hr
  | .ok (.ret ob), hr =>
    obtain ⟨led, rfl, rfl⟩ := hr
    have g1 : (s.heap.push { cls := .type "set", dict := none, data := .set #[] 0 (.fresh 0 0 led) }).get? s.heap.objs.size = some { cls := .type "set", dict := none, data := .set #[] 0 (.fresh 0 0 led) } := Heap.get?_push_size _ rfl
    have g2 : Shared.TypeIs { s with heap := s.heap.push { cls := .type "set", dict := none, data := .set #[] 0 (.fresh 0 0 led) } } (.ref s.heap.objs.size) "set" := ⟨_, g1, rfl⟩
    have g3 := PySem.F.called_set.init.lookup; have g4 := PySem.F.called_set.init.bind (.ref s.heap.objs.size)
    (repeat (any_goals (first | assumption | wp_step)))
    refine codeAny_mono (codeAny_call_builtin (R := wants (fun r s2 => r = .none ∧ ∃ h' tk, s2 = { s with heap := h', toks := tk } ∧ SetNub prog w h' s.heap.objs.size xs xs.length ∧ (∀ b o, b < s.heap.objs.size → s.heap.get? b = some o → h'.get? b = some o)) E) PySem.F.called_set.init.plain PySem.F.entry_set_init (check_set_init_1 g2 ?_)) fun r2 s2 hr2 => ?_
    · obtain ⟨⟨oc, od, oda, osl⟩, hol, hcl, nl, hdl⟩ := hl
      (simp only at hcl hdl); (subst hcl; subst hdl)
      have g5 : (s.heap.push { cls := .type "set", dict := none, data := .set #[] 0 (.fresh 0 0 led) }).get? l = some { cls := .type "list", dict := od, data := .seq its nl, slots := osl } := Heap.get?_push_of_some _ hol
      have g6 := PySem.F.sub_list_set; have g7 := PySem.F.sub_list_frozenset; have g8 : (Value.type "list" == Value.type "dict") = false := by decide
      have g9 : (s.heap.push { cls := .type "set", dict := none, data := .set #[] 0 (.fresh 0 0 led) }).IsList l its := ⟨_, g5, rfl, nl, rfl⟩
      (unfold Builtin.«set.__init__» noKeywords Builtin.Frozenset.updateFrom; generalize hPI : pyIter = PI; wp_walk; subst hPI)
      refine wpAny_pyIter_list g9 (wpAny_bind (wpAny_runValue ?_))
      have k1 : l < s.heap.objs.size := Heap.lt_size hol
      have k2 : A.in1.in1.in1.handled = none := by simp [hh]
      have k3 : l ≠ (s.heap.push { cls := .type "set", dict := none, data := .set #[] 0 (.fresh 0 0 led) }).objs.size := by
        (rw [Heap.size_push]; exact Nat.ne_of_lt (Nat.lt_succ_of_lt k1))
      have k4 : s.heap.objs.size ∉ [(s.heap.push { cls := .type "set", dict := none, data := .set #[] 0 (.fresh 0 0 led) }).objs.size, l] := by
        (rw [Heap.size_push]; simp only [List.mem_cons, List.mem_singleton, List.not_mem_nil, or_false, not_or]; exact ⟨Nat.ne_of_lt (Nat.lt_succ_self _), Nat.ne_of_gt k1⟩)
      have k5 : ∀ (i : Nat) (v : Value), its[i]? = some v → ∃ x t, xs[i]? = some x ∧ v = .str x t := fun i v hv => by
        obtain ⟨t, e⟩ := SS.strs_at hi i v (by rw [Array.getElem?_toList]; exact hv)
        have il : i < xs.length := by rw [hsz]; exact (Array.getElem?_eq_some_iff.mp hv).1
        exact ⟨xs[i], t, List.getElem?_eq_getElem il, by rw [e, List.getD_eq_getElem?_getD, List.getElem?_eq_getElem il] <;> rfl⟩
      refine nub_loop ((Walks.list k2 _ l k3 its).toS) s.heap.objs.size k4 xs hsz (by omega) k5 (its.size - 0) 0 _ (by omega) (Nat.zero_le _) ⟨⟨_, Heap.get?_push_size _ rfl, rfl, rfl⟩, (g9.push _)⟩ ?a0 ?a1
      case a0 => exact PyProof.Rows.SetOf_congr ((PyProof.Rows.setObjOf_fresh (knd := PySem.strKind prog w) led).setOf (Heap.get?_push_of_some _ g1) (by unfold scanBound; omega)) (fun _ => rfl) rfl
      case a1 =>
        rintro ⟨h', g', d', tk', os'⟩ mv hN
        have e1 : g' = s.gens := mv.gens; have e2 : d' = s.drawn := mv.drawn; have e3 : os' = s.os := mv.os
        (subst e1; subst e2; subst e3)
        show wpAny _ _ _ _ _ _
        refine wpAny_pure (by show wpAny _ _ (ret Value.none) _ _ _; exact wpAny_pure ⟨rfl, h', tk', rfl, hsz ▸ hN, fun b o lb z => mv.heap b o (by simp only [List.mem_cons, List.mem_singleton, List.not_mem_nil, or_false, not_or]; rw [Heap.size_push]; exact ⟨Nat.ne_of_lt lb, Nat.ne_of_lt (Nat.lt_succ_of_lt lb)⟩) (Heap.get?_push_of_some _ (Heap.get?_push_of_some _ z))⟩)
    · match r2, hr2 with
      | .error e, hr2 => exact hr2
      | .ok (.ret r), hr2 =>
        obtain ⟨rfl, h', tk, rfl, hN, keep⟩ := hr2
        (repeat (any_goals (first | assumption | wp_step)))
        exact h h' tk hN keep
      | .ok .next, hr2 => exact hr2.elim
      | .ok .brk, hr2 => exact hr2.elim
      | .ok .cont, hr2 => exact hr2.elim
  | .ok .next, hr => exact hr.elim
  | .ok .brk, hr => exact hr.elim
  | .ok .cont, hr => exact hr.elim
end
section
variable {prog : Program} {w : World} {A : Around} {E : Value → Shared → Prop} {s : Shared}
theorem set_of_tuple {l : Addr} {its : Array Value} {xs : List Str} {Q : Value → Shared → Prop} (hh : A.handled = none) (hl : s.heap.IsTuple l its) (hi : PyProof.Rows.StrsAre its.toList xs) (hb : xs.length + 1 < scanBound)
    (h : ∀ (h' : Heap) (tk : Nat), SetNub prog w h' s.heap.objs.size xs xs.length → (∀ b o, b < s.heap.objs.size → s.heap.get? b = some o → h'.get? b = some o) → Q (.ref s.heap.objs.size) { s with heap := h', toks := tk }) : wpAny (model prog w) A (call (.type "set") [.ref l]) Q E s := by
  obtain ⟨c0, tl0, hm0⟩ := PySem.F.called_set.mro
  have f1 := PySem.F.called_set.made; have f2 := PySem.F.called_set.sub; have f3 := PySem.F.called_set.notType; have f4 := PySem.F.called_set.canCreate; have f5 := PySem.F.typeCall_set_1 (.ref l)
  have hsz : xs.length = its.size := by rw [← StrsAre.len_eq hi, Array.length_toList]
  (refine wpAny_call (codeAny_of_tree ?_); show wpAny _ _ (callAny (.type "set") _) _ _ _; refine wpAny_pure ⟨Code.quiet_builtin _ (by decide +kernel), codeAny_builtin PySem.F.entry_type_call ?_⟩; rw [Around.under_plain (weight_type_call_type "set" [.ref l] []) rfl])
  (repeat (any_goals (first | assumption | wp_step)))
  refine codeAny_mono (code_set_new_1 (.ref l) (E := E) (Q₁ := fun ob s1 => ∃ led : Bool, ob = .ref s.heap.objs.size ∧ s1 = { s with heap := s.heap.push { cls := .type "set", dict := none, data := .set #[] 0 (.fresh 0 0 led) } }) fun led => ⟨led, rfl, rfl⟩) fun rr s1 hr => ?_
  match rr, hr with
  | .error e, hr => exact hr
  | .ok (.ret ob), hr =>
    obtain ⟨led, rfl, rfl⟩ := hr
    have g1 : (s.heap.push { cls := .type "set", dict := none, data := .set #[] 0 (.fresh 0 0 led) }).get? s.heap.objs.size = some { cls := .type "set", dict := none, data := .set #[] 0 (.fresh 0 0 led) } := Heap.get?_push_size _ rfl
    have g2 : Shared.TypeIs { s with heap := s.heap.push { cls := .type "set", dict := none, data := .set #[] 0 (.fresh 0 0 led) } } (.ref s.heap.objs.size) "set" := ⟨_, g1, rfl⟩
    have g3 := PySem.F.called_set.init.lookup; have g4 := PySem.F.called_set.init.bind (.ref s.heap.objs.size)
    (repeat (any_goals (first | assumption | wp_step)))
    refine codeAny_mono (codeAny_call_builtin (R := wants (fun r s2 => r = .none ∧ ∃ h' tk, s2 = { s with heap := h', toks := tk } ∧ SetNub prog w h' s.heap.objs.size xs xs.length ∧ (∀ b o, b < s.heap.objs.size → s.heap.get? b = some o → h'.get? b = some o)) E) PySem.F.called_set.init.plain PySem.F.entry_set_init (check_set_init_1 g2 ?_)) fun r2 s2 hr2 => ?_
    · obtain ⟨⟨oc, od, oda, osl⟩, hol, hcl, nl, hdl⟩ := hl
      (simp only at hcl hdl); (subst hcl; subst hdl)
      have g5 : (s.heap.push { cls := .type "set", dict := none, data := .set #[] 0 (.fresh 0 0 led) }).get? l = some { cls := .type "tuple", dict := od, data := .seq its nl, slots := osl } := Heap.get?_push_of_some _ hol
      have g6 := PySem.F.sub_tuple_set; have g7 := PySem.F.sub_tuple_frozenset; have g8 : (Value.type "tuple" == Value.type "dict") = false := by decide
      have g9 : (s.heap.push { cls := .type "set", dict := none, data := .set #[] 0 (.fresh 0 0 led) }).IsTuple l its := ⟨_, g5, rfl, nl, rfl⟩
      (unfold Builtin.«set.__init__» noKeywords Builtin.Frozenset.updateFrom; generalize hPI : pyIter = PI; wp_walk; subst hPI)
      refine wpAny_pyIter_tuple g9 (wpAny_bind (wpAny_runValue ?_))
      have k1 : l < s.heap.objs.size := Heap.lt_size hol
      have k2 : A.in1.in1.in1.handled = none := by simp [hh]
      have k3 : l ≠ (s.heap.push { cls := .type "set", dict := none, data := .set #[] 0 (.fresh 0 0 led) }).objs.size := by
        (rw [Heap.size_push]; exact Nat.ne_of_lt (Nat.lt_succ_of_lt k1))
      have k4 : s.heap.objs.size ∉ [(s.heap.push { cls := .type "set", dict := none, data := .set #[] 0 (.fresh 0 0 led) }).objs.size, l] := by
        (rw [Heap.size_push]; simp only [List.mem_cons, List.mem_singleton, List.not_mem_nil, or_false, not_or]; exact ⟨Nat.ne_of_lt (Nat.lt_succ_self _), Nat.ne_of_gt k1⟩)
      have k5 : ∀ (i : Nat) (v : Value), its[i]? = some v → ∃ x t, xs[i]? = some x ∧ v = .str x t := fun i v hv => by
        obtain ⟨t, e⟩ := SS.strs_at hi i v (by rw [Array.getElem?_toList]; exact hv)
        have il : i < xs.length := by rw [hsz]; exact (Array.getElem?_eq_some_iff.mp hv).1
        exact ⟨xs[i], t, List.getElem?_eq_getElem il, by rw [e, List.getD_eq_getElem?_getD, List.getElem?_eq_getElem il] <;> rfl⟩
      refine nub_loop ((Walks.tuple k2 _ l k3 its).toS) s.heap.objs.size k4 xs hsz (by omega) k5 (its.size - 0) 0 _ (by omega) (Nat.zero_le _) ⟨⟨_, Heap.get?_push_size _ rfl, rfl, rfl⟩, (g9.push _)⟩ ?a0 ?a1
      case a0 => exact PyProof.Rows.SetOf_congr ((PyProof.Rows.setObjOf_fresh (knd := PySem.strKind prog w) led).setOf (Heap.get?_push_of_some _ g1) (by unfold scanBound; omega)) (fun _ => rfl) rfl
      case a1 =>
        rintro ⟨h', g', d', tk', os'⟩ mv hN
        have e1 : g' = s.gens := mv.gens; have e2 : d' = s.drawn := mv.drawn; have e3 : os' = s.os := mv.os
        (subst e1; subst e2; subst e3)
        show wpAny _ _ _ _ _ _
        refine wpAny_pure (by show wpAny _ _ (ret Value.none) _ _ _; exact wpAny_pure ⟨rfl, h', tk', rfl, hsz ▸ hN, fun b o lb z => mv.heap b o (by simp only [List.mem_cons, List.mem_singleton, List.not_mem_nil, or_false, not_or]; rw [Heap.size_push]; exact ⟨Nat.ne_of_lt lb, Nat.ne_of_lt (Nat.lt_succ_of_lt lb)⟩) (Heap.get?_push_of_some _ (Heap.get?_push_of_some _ z))⟩)
    · match r2, hr2 with
      | .error e, hr2 => exact hr2
      | .ok (.ret r), hr2 =>
        obtain ⟨rfl, h', tk, rfl, hN, keep⟩ := hr2
        (repeat (any_goals (first | assumption | wp_step)))
        exact h h' tk hN keep
      | .ok .next, hr2 => exact hr2.elim
      | .ok .brk, hr2 => exact hr2.elim
      | .ok .cont, hr2 => exact hr2.elim
  | .ok .next, hr => exact hr.elim
  | .ok .brk, hr => exact hr.elim
  | .ok .cont, hr => exact hr.elim
end
end Wm
namespace Wm
open PySem L2 PySem.Spec
open PyProof.Rows hiding St
theorem strsAre_vals : ∀ {xs : List Str} {us : List Value}, Vals (xs.map V.str) us → StrsAre us xs
  | [], _, .nil => .nil
  | x :: xs, _, .cons r t => by
    obtain ⟨k, rfl⟩ := r
    exact .cons x k (strsAre_vals t)
def tLenSetS (K : PySem.W.Frag) (ta : TE) : TE := fun σ H Q => ta σ H fun x H1 => ∃ (l : Addr) (xs : List Str), x = .ref l ∧ SqA K H1 l (xs.map V.str) ∧ xs.length ≤ 1000 ∧ Q (.int ((nubS xs).length : Nat)) H1
theorem pe_lenSetS {X : Cx} {a : Expr} {ta : TE} {p p2 q pos : Pos} (hg : Gl X "len") (hm : X.mg "len" = none) (hg2 : Gl X "set") (hm2 : X.mg "set" = none) (ha : PE X a ta) (hc : X.calm = true := by rfl)
    (na : starEach [a] X.env = (false, eval a X.env) :: starEach [] X.env := by rfl) : PE X (.Call (.Name "len" p) [.Call (.Name "set" p2) [a] [] q] [] pos) (tLenSetS X.K ta) := by
  refine ⟨fun pins s σ H Q I h => Call_ (ld_blt I hg hm boot_len (PyProof.Rows.callWith_builtin1 (PyProof.Rows.args_cons ?_ rfl) rfl rfl))⟩
  refine Call_ (ld_blt I hg2 hm2 PyProof.Rows.boot_set (PyProof.Rows.callWith_type1 (PyProof.Rows.args_cons (thn (ha.run pins s σ H _ I h) fun v s1 ⟨x, H1, I1, r1, q1⟩ => PyProof.Rows.args_nil ?_) na) na rfl))
  obtain ⟨l, xs, rfl, hq, hl, q1⟩ := q1
  cases r1
  have sb : xs.length + 1 < scanBound := by unfold scanBound; omega
  have key : ∀ (h' : Heap) (tk : Nat), SetNub X.prog X.w h' s1.heap.objs.size xs xs.length → (∀ b o, b < s1.heap.objs.size → s1.heap.get? b = some o → h'.get? b = some o) →
      wpAny (model X.prog X.w) X.A (spliced (backTo pos (starEach [] X.env))) (fun vs s₂ => wpAny (model X.prog X.w) X.A (call (Value.builtin "len") (.ref s1.heap.objs.size :: vs)) (EP X pins σ Q) X.xe s₂) X.xe { s1 with heap := h', toks := tk } := fun h' tk hN keep => by
    obtain ⟨o, es, ep, t, ho, hex, hd, _, _, _, hf, hn⟩ := hN
    rw [List.take_length] at hn
    have I2 : Inv X pins σ H1 { s1 with heap := h', toks := tk } := I1.kept fun b o e => keep b o (Heap.lt_size e) e
    have hs : (nubS xs).length ≤ xs.length := by
      have := nub_le xs xs.length
      rwa [List.take_length] at this
    refine PyProof.Rows.args_nil (call_len_set ho hex hd hf (by rw [hn]; omega) ⟨.int (nubS xs).length, H1, I2.tok _, ⟨_, by rw [hn]⟩, q1⟩)
  rcases hq with hq | hq
  · obtain ⟨its, r, pl, hz⟩ := I1.list hq
    exact set_of_list (I1.ok.hd hc) pl.isList (by simpa using strsAre_vals r) sb key
  · obtain ⟨its, r, pl, hz⟩ := I1.tuple hq
    exact set_of_tuple (I1.ok.hd hc) pl (by simpa using strsAre_vals r) sb key
theorem nub_nodup {xs : List Str} (h : xs.Nodup) : nubS xs = xs := by
  have key : ∀ (ys acc : List Str), (acc ++ ys).Nodup → ys.foldl nubStep acc = acc ++ ys := by
    intro ys
    induction ys with
    | nil => intro acc _; simp
    | cons y ys ih =>
      intro acc hn
      have no : acc.any (· == y) = false := by
        cases hb : acc.any (· == y) with
        | false => rfl
        | true =>
          obtain ⟨z, hz, e⟩ := List.any_eq_true.mp hb
          have e2 : z = y := eq_of_beq e
          subst e2
          exact absurd rfl ((List.nodup_append.mp hn).2.2 z hz z (by simp))
      have st : nubStep acc y = acc ++ [y] := by
        unfold nubStep
        rw [if_neg (by simp [no])]
      rw [List.foldl_cons, st, ih (acc ++ [y]) (by simpa using hn)]
      simp
  exact key xs [] (by simpa using h)
end Wm
namespace Wm
open PySem
abbrev Fld := Str × Str × Str
structure Row where
  name : Str
  bases : List Str
  abs : Bool
  own : List Fld
def lastOcc : List Str → List Str
  | [] => []
  | x :: t => if x ∈ t then lastOcc t else x :: lastOcc t
theorem mem_last {x : Str} : ∀ {l : List Str}, x ∈ lastOcc l ↔ x ∈ l
  | [] => Iff.rfl
  | y :: t => by
    unfold lastOcc
    have ih := mem_last (x := x) (l := t)
    by_cases h : y ∈ t
    · rw [if_pos h, ih, List.mem_cons]
      exact ⟨.inr, fun z => z.elim (fun e => e ▸ h) id⟩
    · rw [if_neg h, List.mem_cons, List.mem_cons, ih]
theorem last_nodup : ∀ (l : List Str), (lastOcc l).Nodup
  | [] => List.Pairwise.nil
  | y :: t => by
    unfold lastOcc
    have ih := last_nodup t
    by_cases h : y ∈ t
    · rw [if_pos h]
      exact ih
    · rw [if_neg h]
      exact List.nodup_cons.mpr ⟨fun z => h (mem_last.mp z), ih⟩
def names (rows : List Row) : List Str := rows.map (·.name)
def get (tab : List (Str × List Str)) (n : Str) : List Str := (tab.lookup n).getD []
def lineStep (acc : List (Str × List Str)) (r : Row) : List (Str × List Str) := acc ++ [(r.name, lastOcc (r.name :: r.bases.flatMap (get acc)))]
def linesOf (rows : List Row) : List (Str × List Str) := rows.foldl lineStep []
def lineF (rows : List Row) (n : Str) : List Str := get (linesOf rows) n
def ownOf (rows : List Row) (n : Str) : List Fld := match rows.find? (fun r => r.name == n) with
  | some r => r.own
  | none => []
abbrev Fld4 := Str × Str × Str × Str
def fieldsF (rows : List Row) (n : Str) : List Fld4 := (lineF rows n).reverse.flatMap fun o => (ownOf rows o).map fun f => (f.1, f.2.1, f.2.2, o)
theorem lines_snoc (rows : List Row) (r : Row) : linesOf (rows ++ [r]) = linesOf rows ++ [(r.name, lastOcc (r.name :: r.bases.flatMap (lineF rows)))] := by
  unfold linesOf
  rw [List.foldl_append]
  rfl
theorem lookup_names {tab : List (Str × List Str)} {n : Str} : n ∈ tab.map (·.1) ↔ (tab.lookup n).isSome = true := by
  induction tab with
  | nil => simp
  | cons p t ih =>
    obtain ⟨k, v⟩ := p
    simp only [List.map_cons, List.mem_cons, List.lookup_cons]
    by_cases h : n = k
    · subst h
      simp
    · have hb : (n == k) = false := by simpa using h
      simp [h, hb, ih]
theorem lines_names (rows : List Row) : (linesOf rows).map (·.1) = names rows := by
  have key : ∀ (rs : List Row) (acc : List (Str × List Str)), (rs.foldl lineStep acc).map (·.1) = acc.map (·.1) ++ names rs := by
    intro rs
    induction rs with
    | nil => intro acc; simp [names]
    | cons r rs ih =>
      intro acc
      rw [List.foldl_cons, ih]
      simp [lineStep, names]
  simpa [linesOf] using key rows []
theorem line_keep {rows : List Row} {r : Row} {n : Str} (h : n ∈ names rows) : lineF (rows ++ [r]) n = lineF rows n := by
  unfold lineF get
  rw [lines_snoc, List.lookup_append]
  rw [← lines_names, lookup_names] at h
  obtain ⟨v, e⟩ := Option.isSome_iff_exists.mp h
  rw [e]
  rfl
theorem line_new {rows : List Row} {r : Row} (h : r.name ∉ names rows) : lineF (rows ++ [r]) r.name = lastOcc (r.name :: r.bases.flatMap (lineF rows)) := by
  unfold lineF get
  rw [lines_snoc, List.lookup_append]
  rw [← lines_names, lookup_names] at h
  have e : (linesOf rows).lookup r.name = none := Option.not_isSome_iff_eq_none.mp h
  rw [e]
  simp only [Option.none_or, List.lookup_cons, beq_self_eq_true]
  rfl
theorem line_none {rows : List Row} {n : Str} (h : n ∉ names rows) : lineF rows n = [] := by
  unfold lineF get
  rw [← lines_names, lookup_names] at h
  have e : (linesOf rows).lookup n = none := Option.not_isSome_iff_eq_none.mp h
  rw [e]
  rfl
theorem line_keeps {rows more : List Row} {n : Str} (h : n ∈ names rows) : lineF (rows ++ more) n = lineF rows n := by
  induction more generalizing rows with
  | nil => rw [List.append_nil]
  | cons r more ih =>
    rw [show rows ++ r :: more = (rows ++ [r]) ++ more from by simp, ih (by simp [names] at *; exact .inl h), line_keep h]
theorem own_keeps {rows more : List Row} {n : Str} (h : n ∈ names rows) : ownOf (rows ++ more) n = ownOf rows n := by
  unfold ownOf
  rw [List.find?_append]
  obtain ⟨r, hr, e⟩ := List.mem_map.mp h
  have s : (rows.find? (fun r => r.name == n)).isSome = true := by
    rw [List.find?_isSome]
    exact ⟨r, hr, by simp [e]⟩
  obtain ⟨v, e⟩ := Option.isSome_iff_exists.mp s
  rw [e]
  rfl
theorem own_new {rows : List Row} {r : Row} (h : r.name ∉ names rows) : ownOf (rows ++ [r]) r.name = r.own := by
  unfold ownOf
  rw [List.find?_append]
  have e : rows.find? (fun x => x.name == r.name) = none := by
    rw [List.find?_eq_none]
    intro x hx
    simp only [beq_iff_eq]
    intro z
    exact h (z ▸ List.mem_map_of_mem hx)
  rw [e]
  simp
theorem line_sub {rows : List Row} (hb : ∀ (k : Nat) r, rows[k]? = some r → ∀ b, b ∈ r.bases → b ∈ names (rows.take k)) : ∀ {n o : Str}, o ∈ lineF rows n → o ∈ names rows := by
  have key : ∀ (m : Nat), m ≤ rows.length → ∀ {n o : Str}, o ∈ lineF (rows.take m) n → o ∈ names (rows.take m) := by
    intro m
    induction m with
    | zero => intro _ n o h; simp [lineF, linesOf, get] at h
    | succ m ih =>
      intro hm n o h
      have hlt : m < rows.length := hm
      have e : rows.take (m + 1) = rows.take m ++ [rows[m]] := by rw [List.take_add_one, List.getElem?_eq_getElem hlt] <;> rfl
      have mono : ∀ {x : Str}, x ∈ names (rows.take m) → x ∈ names (rows.take m ++ [rows[m]]) := fun z => by
        unfold names
        rw [List.map_append]
        exact List.mem_append_left _ z
      rw [e] at h ⊢
      by_cases hn : n ∈ names (rows.take m)
      · rw [line_keep hn] at h
        exact mono (ih (by omega) h)
      · by_cases hr : n = rows[m].name
        · subst hr
          rw [line_new hn, mem_last, List.mem_cons] at h
          rcases h with rfl | h
          · unfold names
            rw [List.map_append]
            exact List.mem_append_right _ (by simp)
          · obtain ⟨b, _, h2⟩ := List.mem_flatMap.mp h
            exact mono (ih (by omega) h2)
        · rw [line_none (by
            unfold names
            rw [List.map_append, List.mem_append]
            simp only [List.map_cons, List.map_nil, List.mem_cons, List.not_mem_nil, or_false]
            exact fun z => z.elim hn hr)] at h
          cases h
  intro n o h
  have := key rows.length (Nat.le_refl _) (n := n) (o := o)
  rw [List.take_length] at this
  exact this h
theorem fields_keep {rows : List Row} {more : List Row} {n : Str} (hb : ∀ (k : Nat) r, rows[k]? = some r → ∀ b, b ∈ r.bases → b ∈ names (rows.take k)) (h : n ∈ names rows) : fieldsF (rows ++ more) n = fieldsF rows n := by
  unfold fieldsF
  rw [line_keeps h]
  have e : ∀ o, o ∈ (lineF rows n).reverse → (ownOf (rows ++ more) o).map (fun f => (f.1, f.2.1, f.2.2, o)) = (ownOf rows o).map (fun f => ((f.1, f.2.1, f.2.2, o) : Fld4)) := fun o ho => by
    rw [own_keeps (line_sub hb (List.mem_reverse.mp ho))]
  generalize (lineF rows n).reverse = l at e ⊢
  induction l with
  | nil => rfl
  | cons a l ih =>
    rw [List.flatMap_cons, List.flatMap_cons, e a (by simp), ih fun o ho => e o (by simp [ho])]
def isUp (c : Nat) : Bool := decide (65 ≤ c) && decide (c ≤ 90)
def isLow (c : Nat) : Bool := decide (97 ≤ c) && decide (c ≤ 122)
def kindName (x : Str) : Bool := decide (1 ≤ x.length) && (decide (x.length ≤ 8) && (match x.cps.toList with
  | [] => false
  | c :: r => isUp c && r.all isLow))
def fieldName (x : Str) : Bool := decide (1 ≤ x.length) && (decide (x.length ≤ 8) && (x.cps.toList.all isLow && !decide (x ∈ ([.ofString "kind", .ofString "tag", .ofString "self"] : List Str))))
def MODESl : List Str := ["one", "many"]
structure RowOk (all : List Str) (pre : List Row) (r : Row) : Prop where
  nm : kindName r.name = true
  fresh : r.name ∉ names pre
  bsub : ∀ b, b ∈ r.bases → b ∈ names pre
  bnd : r.bases.Nodup
  blen : r.bases.length ≤ 3
  own : ∀ f, f ∈ r.own → fieldName f.1 = true ∧ f.2.1 ∈ MODESl ∧ f.2.2 ∈ all
  fnd : ((fieldsF (pre ++ [r]) r.name).map (·.1)).Nodup
  flen : (fieldsF (pre ++ [r]) r.name).length ≤ 4
def RowsOk (all : List Str) (rows : List Row) : Prop := ∀ (k : Nat) r, rows[k]? = some r → RowOk all (rows.take k) r
structure SchOk (rows : List Row) : Prop where
  ok : RowsOk (names rows) rows
  pos : 1 ≤ rows.length
  few : rows.length ≤ 6
  conc : ∃ r, r ∈ rows ∧ r.abs = false
theorem RowsOk.bs {all : List Str} {rows : List Row} (h : RowsOk all rows) : ∀ (k : Nat) r, rows[k]? = some r → ∀ b, b ∈ r.bases → b ∈ names (rows.take k) := fun k r e b hb => (h k r e).bsub b hb
theorem RowsOk.snoc {all : List Str} {rows : List Row} {r : Row} (h : RowsOk all rows) (hr : RowOk all rows r) : RowsOk all (rows ++ [r]) := by
  intro k x e
  by_cases hk : k < rows.length
  · rw [List.getElem?_append_left hk] at e
    rw [List.take_append_of_le_length (Nat.le_of_lt hk)]
    exact h k x e
  · have hk2 : k = rows.length := by
      rw [List.getElem?_append_right (by omega)] at e
      have := (List.getElem?_eq_some_iff.mp e).1
      simp at this
      omega
    subst hk2
    rw [List.getElem?_append_right (Nat.le_refl _), Nat.sub_self] at e
    cases e
    rw [List.take_append_of_le_length (Nat.le_refl _), List.take_length]
    exact hr
theorem RowsOk.nd {all : List Str} {rows : List Row} (h : RowsOk all rows) : (names rows).Nodup := by
  have key : ∀ (m : Nat), m ≤ rows.length → (names (rows.take m)).Nodup := by
    intro m
    induction m with
    | zero => intro _; simp [names, List.Nodup]
    | succ m ih =>
      intro hm
      have hlt : m < rows.length := hm
      have e : rows.take (m + 1) = rows.take m ++ [rows[m]] := by rw [List.take_add_one, List.getElem?_eq_getElem hlt] <;> rfl
      have f := (h m rows[m] (List.getElem?_eq_getElem hlt)).fresh
      rw [e]
      unfold names at f ⊢
      rw [List.map_append, List.nodup_append]
      refine ⟨ih (by omega), by simp, fun a ha b hb z => ?_⟩
      simp only [List.map_cons, List.map_nil, List.mem_cons, List.not_mem_nil, or_false] at hb
      subst hb z
      exact f ha
  have := key rows.length (Nat.le_refl _)
  rwa [List.take_length] at this
abbrev Held := List (Str × Str)
def pairsF (l : List Fld4) : Held := l.map fun f => (f.2.2.2, f.1)
structure HeldOk (pre : List Row) (bs : List Str) (hd : Held) : Prop where
  sub : ∀ b, b ∈ bs → b ∈ names pre
  bnd : bs.Nodup
  nd : hd.Nodup
  mem : ∀ p, p ∈ hd ↔ ∃ b, b ∈ bs ∧ p ∈ pairsF (fieldsF pre b)
  nnd : (hd.map (·.2)).Nodup
  len : hd.length ≤ 4
theorem HeldOk.nil (pre : List Row) : HeldOk pre [] [] := ⟨fun b h => by simp at h, List.Pairwise.nil, List.Pairwise.nil, fun p => ⟨fun h => by simp at h, fun ⟨b, h, _⟩ => by simp at h⟩, List.Pairwise.nil, by simp⟩
def addNew (h : Held) (p : Str × Str) : Held := if p ∈ h then h else h ++ [p]
def mergeF (h : Held) (l : List Fld4) : Held := (pairsF l).foldl addNew h
theorem merge_mem {l : Held} : ∀ {h : Held} {p : Str × Str}, p ∈ l.foldl addNew h ↔ p ∈ h ∨ p ∈ l := by
  induction l with
  | nil => intro h p; simp
  | cons a l ih =>
    intro h p
    rw [List.foldl_cons, ih]
    unfold addNew
    by_cases z : a ∈ h
    · rw [if_pos z, List.mem_cons]
      exact ⟨fun q => q.imp id .inr, fun q => q.elim .inl fun q => q.elim (fun e => .inl (e ▸ z)) .inr⟩
    · rw [if_neg z, List.mem_append, List.mem_cons, List.mem_cons]
      simp only [List.not_mem_nil, or_false]
      exact or_assoc
theorem merge_nodup {l : Held} : ∀ {h : Held}, h.Nodup → (l.foldl addNew h).Nodup := by
  induction l with
  | nil => intro h z; exact z
  | cons a l ih =>
    intro h z
    rw [List.foldl_cons]
    refine ih ?_
    unfold addNew
    by_cases q : a ∈ h
    · rw [if_pos q]
      exact z
    · rw [if_neg q, List.nodup_append]
      refine ⟨z, by simp, fun x hx y hy e => ?_⟩
      simp only [List.mem_cons, List.not_mem_nil, or_false] at hy
      subst hy e
      exact q hx
theorem HeldOk.add {pre : List Row} {bs : List Str} {hd : Held} {b : Str} (h : HeldOk pre bs hd) (hb : b ∈ names pre) (hn : b ∉ bs) (hl : (mergeF hd (fieldsF pre b)).length ≤ 4) (hd2 : ((mergeF hd (fieldsF pre b)).map (·.2)).Nodup) : HeldOk pre (bs ++ [b]) (mergeF hd (fieldsF pre b)) where
  sub := fun c hc => by
    rcases List.mem_append.mp hc with z | z
    · exact h.sub c z
    · simp only [List.mem_cons, List.not_mem_nil, or_false] at z
      exact z ▸ hb
  bnd := by
    rw [List.nodup_append]
    refine ⟨h.bnd, by simp, fun x hx y hy e => ?_⟩
    simp only [List.mem_cons, List.not_mem_nil, or_false] at hy
    subst hy e
    exact hn hx
  nd := merge_nodup h.nd
  mem := fun p => by
    unfold mergeF
    rw [merge_mem, h.mem]
    constructor
    · rintro (⟨c, hc, z⟩ | z)
      · exact ⟨c, List.mem_append_left _ hc, z⟩
      · exact ⟨b, by simp, z⟩
    · rintro ⟨c, hc, z⟩
      rcases List.mem_append.mp hc with q | q
      · exact .inl ⟨c, q, z⟩
      · simp only [List.mem_cons, List.not_mem_nil, or_false] at q
        exact .inr (q ▸ z)
  nnd := hd2
  len := hl
end Wm
namespace Wm
open PySem L2 PySem.Spec PySem.W PySem.SeqAt
open PyProof.Rows hiding St
section
variable {D : Ends} {σ : St} {H : Hp} {Q : VK} {K : PySem.W.Frag}
theorem all2_map {α β : Type} {f : α → β} : ∀ {l : List α} {m : List β}, All2 (fun a b => b = f a) l m → m = l.map f
  | _, _, .nil => rfl
  | _, _, .cons h t => by rw [h, all2_map t]; rfl
theorem len_filtA {α : Type} {l : List α} {p : α → Bool} {i : Nat} {x : α} (h : l[i]? = some x) : ((l.take i).filter p).length < l.length := len_filt h
theorem r_lcW {α : Type} {J : It} {n : Nat} {G : Hp → Prop} {Y : Nat → Hp → V → Hp → Prop} {g : TG} {tt : TT} {te : TE} {vs : List Nat} (w : Walk J n G Y) (items : List α) (hn : items.length = n) (p : α → Bool) (Rl : α → V → Hp → Prop)
    (hst : ∀ a y G G', Rl a y G → (∀ b o, G b = some o → G' b = some o) → Rl a y G') (hG : ∀ H', Same H H' → G H') (hz : n ≤ sizeLine)
    (ht : ∀ (D : Addr) (i : Nat) (a : α) (x : V) (Hi Hj : Hp) (acc : List V) (Kt : V → Hp → Prop) (Kf : Hp → Prop), H D = none → items[i]? = some a → Same H Hi → Hi D = some (.lst acc) → Y i Hi x Hj → (p a = true → ∀ y H'', Same Hi H'' → Rl a y (hid D H'') → Kt y H'') → (p a = false → ∀ H'', Same Hi H'' → Kf H'') →
      g x (wipe σ vs) Hj fun σ2 H2 => wipe σ2 vs = wipe σ vs ∧ tt σ2 H2 fun b H3 => if b = true then te σ2 H3 Kt else Kf H3)
    (k : ∀ q ys H', H q = none → Same H H' → H' q = some (.lst ys) → All2 (fun a y => Rl a y H') (items.filter p) ys → Q (.ref q) H') : lcEnd g tt te vs σ Q J H := by
  subst hn
  intro D hD
  refine lc_it w (fun j H' => Same H H' ∧ ∃ ys, H' D = some (.lst ys) ∧ All2 (fun a y => Rl a y (hid D H')) ((items.take j).filter p) ys) ⟨same_new hD, [], upd_same, .nil⟩ (fun i H' _ z => hG H' z.1) (fun i x Hi Hj hi z y => ?_) (fun H' z => ?_)
  · obtain ⟨s, acc, e, hr⟩ := z
    have ha : items[i]? = some items[i] := List.getElem?_eq_getElem hi
    have up : ∀ {H'' : Hp} {acc2 : List V} (G : Hp), (∀ b o, G b = some o → b ≠ D ∧ H'' b = some o) → ∀ b o, G b = some o → hid D (upd H'' D (.lst acc2)) b = some o := fun {H'' acc2} G hG b o z => by
      obtain ⟨n, z'⟩ := hG b o z
      refine hid_at n ?_
      rw [upd_ne n]
      exact z'
    refine ht D i items[i] x Hi Hj acc _ _ hD ha s e y (fun hp y2 H'' s2 hy => ⟨acc, s2 _ _ e, ?_, same_put (s.trans s2) hD, _, upd_same, ?_⟩) (fun hp H'' s2 => ⟨s.trans s2, acc, s2 _ _ e, ?_⟩)
    · rw [← hr.len]
      exact Nat.lt_of_lt_of_le (len_filtA ha) hz
    · rw [take_more ha, List.filter_append, show [items[i]].filter p = [items[i]] from by simp [hp]]
      refine All2.snoc (R := fun u v => Rl u v (hid D (upd H'' D (.lst (acc ++ [y2]))))) (hst _ _ _ _ hy (up _ fun b o z => hid_get z)) (hr.mono fun a b z => hst _ _ _ _ z (up _ fun b o z => ⟨(hid_get z).1, s2 _ _ (hid_get z).2⟩))
    · rw [take_more ha, List.filter_append, show [items[i]].filter p = [] from by simp [hp], List.append_nil]
      exact hr.mono fun a b z => hst _ _ _ _ z fun b o z => hid_at (hid_get z).1 (s2 _ _ (hid_get z).2)
  · obtain ⟨s, ys, e, hr⟩ := z
    rw [List.take_length] at hr
    exact k D ys H' hD s e (hr.mono fun a b z => hst _ _ _ _ z fun b o z => (hid_get z).2)
end
section
variable {X : Cx}
end
section
variable {H : Hp} {Q : VK} {K : PySem.W.Frag}
theorem r_yes {σ : St} {R : Bool → Hp → Prop} (h : R true H) : tYes σ H R := h
theorem r_ixS {z : Str} {i : Int} {c : Nat} (hz : z.length ≤ sizeLine) (h : atI z.cps.toList i = some c) (q : Q (.str ⟨#[c]⟩) H) : rIxS (.str z) (.int i) H Q := ⟨z, i, c, rfl, rfl, hz, h, q⟩
end
def rUpper : V → List V → Hp → VK → Prop := fun x xs H Q => ∃ a, x = .str a ∧ xs = [] ∧ a.length ≤ 5592405 ∧ Q (.str (Txt.upper a)) H
theorem mtUpper {X : Cx} : MtR X "str.upper" rUpper := mt_upper
theorem r_upper {H : Hp} {Q : VK} {a : Str} (hz : a.length ≤ 5592405) (q : Q (.str (Txt.upper a)) H) : rUpper (.str a) [] H Q := ⟨a, rfl, rfl, hz, q⟩
def one (c : Nat) : Str := ⟨#[c]⟩
def CAPS : Str := "ABCDEFGHIJKLMNOPQRSTUVWXYZ"
def LOWS : Str := "abcdefghijklmnopqrstuvwxyz"
end Wm
namespace Wm
open PySem L2 PySem.Spec PySem.W PySem.SeqAt
open PyProof.Rows hiding St
def Tx (H H' : Hp) : Prop := ∀ a xs, H a = some (.tup xs) → H' a = some (.tup xs)
theorem Tx.refl (H : Hp) : Tx H H := fun _ _ e => e
theorem Tx.trans {H H1 H2 : Hp} (a : Tx H H1) (b : Tx H1 H2) : Tx H H2 := fun c xs e => b c xs (a c xs e)
theorem tx_same {H H' : Hp} (s : Same H H') : Tx H H' := fun a xs e => s a _ e
theorem tx_step {p c : Addr} {H H' : Hp} (hp : PenAt H p c) (s : PenStep p c H H') : Tx H H' := fun a xs e => s.at hp e rfl
theorem tx_put {H : Hp} {q : Addr} {o : HO} (h : ∀ xs, H q ≠ some (.tup xs)) : Tx H (upd H q o) := fun a xs e => by
  by_cases z : a = q
  · subst z
    exact absurd e (h xs)
  · rw [upd_ne z]
    exact e
theorem tx_lst {H : Hp} {q : Addr} {xs ys : List V} (h : H q = some (.lst xs)) : Tx H (upd H q (.lst ys)) := tx_put fun zs e => by rw [h] at e; cases e
theorem tx_dic {H : Hp} {q : Addr} {xs : List (Key × V)} {o : HO} (h : H q = some (.dK xs)) : Tx H (upd H q o) := tx_put fun zs e => by rw [h] at e; cases e
def StrsAt (H : Hp) (ss : List Str) (v : V) : Prop := ∃ a, v = .ref a ∧ H a = some (.tup (ss.map V.str))
def FldAt (H : Hp) (f : Fld) (v : V) : Prop := ∃ a, v = .ref a ∧ H a = some (.tup [.str f.1, .str f.2.1, .str f.2.2])
def FldsAt (H : Hp) (fs : List Fld) (v : V) : Prop := ∃ a vs, v = .ref a ∧ H a = some (.tup vs) ∧ All2 (FldAt H) fs vs
def F4At (H : Hp) (f : Fld4) (v : V) : Prop := ∃ a, v = .ref a ∧ H a = some (.tup [.str f.1, .str f.2.1, .str f.2.2.1, .str f.2.2.2])
def RowAt (H : Hp) (r : Row) (v : V) : Prop := ∃ a bv ov, v = .ref a ∧ H a = some (.tup [.str r.name, bv, .bl r.abs, ov]) ∧ StrsAt H r.bases bv ∧ FldsAt H r.own ov
def PairAt (H : Hp) (p : Str × Str) (v : V) : Prop := ∃ a, v = .ref a ∧ H a = some (.tup [.str p.1, .str p.2])
def RowsAt (H : Hp) (L : Addr) (rows : List Row) : Prop := ∃ vs, H L = some (.lst vs) ∧ All2 (RowAt H) rows vs
def F4sAt (H : Hp) (L : Addr) (l : List Fld4) : Prop := ∃ vs, H L = some (.lst vs) ∧ All2 (F4At H) l vs
def PairsAt (H : Hp) (L : Addr) (l : Held) : Prop := ∃ vs, H L = some (.lst vs) ∧ All2 (PairAt H) l vs
section
variable {H H' : Hp} {v : V}
theorem StrsAt.tx {ss : List Str} (h : StrsAt H ss v) (t : Tx H H') : StrsAt H' ss v := by
  obtain ⟨a, e, h⟩ := h
  exact ⟨a, e, t _ _ h⟩
theorem FldAt.tx {f : Fld} (h : FldAt H f v) (t : Tx H H') : FldAt H' f v := by
  obtain ⟨a, e, h⟩ := h
  exact ⟨a, e, t _ _ h⟩
theorem F4At.tx {f : Fld4} (h : F4At H f v) (t : Tx H H') : F4At H' f v := by
  obtain ⟨a, e, h⟩ := h
  exact ⟨a, e, t _ _ h⟩
theorem PairAt.tx {f : Str × Str} (h : PairAt H f v) (t : Tx H H') : PairAt H' f v := by
  obtain ⟨a, e, h⟩ := h
  exact ⟨a, e, t _ _ h⟩
theorem FldsAt.tx {fs : List Fld} (h : FldsAt H fs v) (t : Tx H H') : FldsAt H' fs v := by
  obtain ⟨a, vs, e, h, k⟩ := h
  exact ⟨a, vs, e, t _ _ h, k.mono fun _ _ z => z.tx t⟩
theorem RowAt.tx {r : Row} (h : RowAt H r v) (t : Tx H H') : RowAt H' r v := by
  obtain ⟨a, bv, ov, e, h, b, o⟩ := h
  exact ⟨a, bv, ov, e, t _ _ h, b.tx t, o.tx t⟩
theorem all2_rows {rows : List Row} {vs : List V} (h : All2 (RowAt H) rows vs) (t : Tx H H') : All2 (RowAt H') rows vs := h.mono fun _ _ z => z.tx t
theorem all2_f4 {l : List Fld4} {vs : List V} (h : All2 (F4At H) l vs) (t : Tx H H') : All2 (F4At H') l vs := h.mono fun _ _ z => z.tx t
theorem all2_pairs {l : Held} {vs : List V} (h : All2 (PairAt H) l vs) (t : Tx H H') : All2 (PairAt H') l vs := h.mono fun _ _ z => z.tx t
theorem RowsAt.same {L : Addr} {rows : List Row} (h : RowsAt H L rows) (s : Same H H') : RowsAt H' L rows := by
  obtain ⟨vs, e, k⟩ := h
  exact ⟨vs, s _ _ e, all2_rows k (tx_same s)⟩
theorem RowsAt.step {p c L : Addr} {rows : List Row} (h : RowsAt H L rows) (hp : PenAt H p c) (s : PenStep p c H H') : RowsAt H' L rows := by
  obtain ⟨vs, e, k⟩ := h
  exact ⟨vs, s.at hp e rfl, all2_rows k (tx_step hp s)⟩
theorem F4sAt.same {L : Addr} {l : List Fld4} (h : F4sAt H L l) (s : Same H H') : F4sAt H' L l := by
  obtain ⟨vs, e, k⟩ := h
  exact ⟨vs, s _ _ e, all2_f4 k (tx_same s)⟩
theorem PairsAt.same {L : Addr} {l : Held} (h : PairsAt H L l) (s : Same H H') : PairsAt H' L l := by
  obtain ⟨vs, e, k⟩ := h
  exact ⟨vs, s _ _ e, all2_pairs k (tx_same s)⟩
theorem PairsAt.step {p c L : Addr} {l : Held} (h : PairsAt H L l) (hp : PenAt H p c) (s : PenStep p c H H') : PairsAt H' L l := by
  obtain ⟨vs, e, k⟩ := h
  exact ⟨vs, s.at hp e rfl, all2_pairs k (tx_step hp s)⟩
end
theorem nd_len {α : Type} [BEq α] [LawfulBEq α] : ∀ {l m : List α}, l.Nodup → (∀ x, x ∈ l → x ∈ m) → l.length ≤ m.length
  | [], m, _, _ => Nat.zero_le _
  | x :: t, m, hn, hs => by
    have hx := hs x (by simp)
    have ⟨h1, h2⟩ := List.nodup_cons.mp hn
    have ih := nd_len (l := t) (m := m.erase x) h2 fun y hy => (List.mem_erase_of_ne (fun e : y = x => h1 (by rw [← e]; exact hy))).mpr (hs y (by simp [hy]))
    have hl := List.length_erase_of_mem hx
    have hp : 0 < m.length := List.length_pos_of_mem hx
    simp only [List.length_cons]
    omega
theorem line_nodup (rows : List Row) (n : Str) : (lineF rows n).Nodup := by
  have key : ∀ (rs : List Row) (acc : List (Str × List Str)), (∀ p, p ∈ acc → p.2.Nodup) → ∀ p, p ∈ rs.foldl lineStep acc → p.2.Nodup := by
    intro rs
    induction rs with
    | nil => intro acc h; exact h
    | cons r rs ih =>
      intro acc h
      rw [List.foldl_cons]
      refine ih _ fun p hp => ?_
      rcases List.mem_append.mp hp with z | z
      · exact h p z
      · simp only [List.mem_cons, List.not_mem_nil, or_false] at z
        subst z
        exact last_nodup _
  unfold lineF get
  cases e : (linesOf rows).lookup n with
  | none => exact List.Pairwise.nil
  | some l =>
    have hm : (n, l) ∈ linesOf rows := by
      have : ∀ (t : List (Str × List Str)), t.lookup n = some l → (n, l) ∈ t := by
        intro t
        induction t with
        | nil => intro z; cases z
        | cons p t ih =>
          obtain ⟨a, b⟩ := p
          intro z
          rw [List.lookup_cons] at z
          by_cases h : n = a
          · subst h
            simp only [beq_self_eq_true] at z
            cases z
            simp
          · have hb : (n == a) = false := by simpa using h
            rw [hb] at z
            simp [ih z]
      exact this _ e
    exact key rows [] (fun p hp => by simp at hp) (n, l) hm
theorem line_len {rows : List Row} (hb : ∀ (k : Nat) r, rows[k]? = some r → ∀ b, b ∈ r.bases → b ∈ names (rows.take k)) (n : Str) : (lineF rows n).length ≤ rows.length := by
  have := nd_len (line_nodup rows n) (m := names rows) fun x hx => line_sub hb hx
  unfold names at this
  rwa [List.length_map] at this
theorem take_names {rows : List Row} {i : Nat} {r : Row} (h : rows[i]? = some r) : names (rows.take (i + 1)) = names (rows.take i) ++ [r.name] := by
  rw [take_more h]
  simp [names]
def spLine : Sp := fun vs H Q _ => ∃ (L : Addr) (rows all : _) (n : Str), vs = [.ref L, .str n] ∧ RowsAt H L rows ∧ RowsOk all rows ∧ rows.length ≤ 6 ∧ n ∈ names rows ∧ ∀ q H', Same H H' → H q = none → H' q = some (.lst ((lineF rows n).map V.str)) → Q (.ref q) H'
def spFields : Sp := fun vs H Q _ => ∃ (L : Addr) (rows all : _) (n : Str), vs = [.ref L, .str n] ∧ RowsAt H L rows ∧ RowsOk all rows ∧ rows.length ≤ 6 ∧ n ∈ names rows ∧ ∀ q H', Same H H' → H q = none → F4sAt H' q (fieldsF rows n) → Q (.ref q) H'
def concF (rows : List Row) : List Str := (rows.filter fun r => !r.abs).map (·.name)
def spConc : Sp := fun vs H Q _ => ∃ (L : Addr) (rows : List Row), vs = [.ref L] ∧ RowsAt H L rows ∧ rows.length ≤ 6 ∧ ∀ q H', Same H H' → H q = none → H' q = some (.lst ((concF rows).map V.str)) → Q (.ref q) H'
def underF (rows : List Row) (n : Str) : List Str := (concF rows).filter fun o => decide (n ∈ lineF rows o)
def spUnder : Sp := fun vs H Q _ => ∃ (L : Addr) (rows all : _) (n : Str), vs = [.ref L, .str n] ∧ RowsAt H L rows ∧ RowsOk all rows ∧ rows.length ≤ 6 ∧ ∀ q H', Same H H' → H q = none → H' q = some (.lst ((underF rows n).map V.str)) → Q (.ref q) H'
def NameAt (pl c : Nat) (x : Str) : Prop := x.cps.toList.all isLow = true ∧ x.length ≤ 8 ∧ x.cps.toList[pl]? = some c
def spLetters : Sp := fun vs H Q _ => ∃ (p c : Addr) (pl k o : Nat) (plain : Bool), vs = [.ref p, .int pl, .int k, .int o, .bl plain] ∧ PenAt H p c ∧ pl < 8 ∧ k < 1000 ∧ o < 26 ∧ ∀ x H', PenStep p c H H' → NameAt pl (97 + (o + k) % 26) x → Q (.str x) H'
def NamesAt (pl o : Nat) (l : List Str) : Prop := ∀ (k : Nat) x, l[k]? = some x → NameAt pl (97 + (o + k) % 26) x
def spNames : Sp := fun vs H Q _ => ∃ (p c : Addr) (n : Nat), vs = [.ref p, .int n] ∧ PenAt H p c ∧ n ≤ 20 ∧ ∀ (pl o : Nat) (l : List Str) q H', pl < 8 → o < 26 → PenStep p c H H' → H q = none → H' q = some (.lst (l.map V.str)) → l.length = n → NamesAt pl o l → Q (.ref q) H'
def spKinds : Sp := fun vs H Q _ => ∃ (p c : Addr) (n : Nat), vs = [.ref p, .int n] ∧ PenAt H p c ∧ n ≤ 20 ∧ ∀ (l : List Str) q H', PenStep p c H H' → H q = none → H' q = some (.lst (l.map V.str)) → l.length = n → l.Nodup → (∀ x, x ∈ l → kindName x = true) → Q (.ref q) H'
def RESl : List Str := ["kind", "tag", "self"]
theorem low_mem (c : Nat) : decide (c ∈ LOWS.cps.toList) = isLow c := by
  have k : ∀ c, c < 128 → decide (c ∈ LOWS.cps.toList) = isLow c := by decide +kernel
  by_cases h : c < 128
  · exact k c h
  · have h1 : c ∉ LOWS.cps.toList := fun z => h ((by decide +kernel : ∀ x, x ∈ LOWS.cps.toList → x < 128) c z)
    rw [decide_eq_false h1]
    unfold isLow
    symm
    simp only [Bool.and_eq_false_iff, decide_eq_false_iff_not]
    omega
theorem up_mem (c : Nat) : decide (c ∈ CAPS.cps.toList) = isUp c := by
  have k : ∀ c, c < 128 → decide (c ∈ CAPS.cps.toList) = isUp c := by decide +kernel
  by_cases h : c < 128
  · exact k c h
  · have h1 : c ∉ CAPS.cps.toList := fun z => h ((by decide +kernel : ∀ x, x ∈ CAPS.cps.toList → x < 128) c z)
    rw [decide_eq_false h1]
    unfold isUp
    symm
    simp only [Bool.and_eq_false_iff, decide_eq_false_iff_not]
    omega
theorem low_at {i : Nat} (h : i < 26) : LOWS.cps.toList[i]? = some (97 + i) := by
  have : ∀ i, i < 26 → LOWS.cps.toList[i]? = some (97 + i) := by decide +kernel
  exact this i h
theorem upper_one {c : Nat} (h : isLow c = true) : Txt.upper (one c) = one (c - 32) := by
  have k : ∀ i, i < 26 → Txt.upper (one (97 + i)) = one (97 + i - 32) := by decide +kernel
  unfold isLow at h
  simp only [Bool.and_eq_true, decide_eq_true_eq] at h
  have := k (c - 97) (by omega)
  rwa [show 97 + (c - 97) = c from by omega] at this
theorem str_join_ones : ∀ (cs : List Nat), (Str.join "" (cs.map one)).cps.toList = cs
  | [] => rfl
  | [c] => rfl
  | c :: d :: cs => by
    have ih := str_join_ones (d :: cs)
    show ((one c ++ "") ++ Str.join "" ((d :: cs).map one)).cps.toList = _
    rw [show (((one c ++ "") ++ Str.join "" ((d :: cs).map one)) : Str).cps = ((one c).cps ++ (Str.ofString "").cps) ++ (Str.join "" ((d :: cs).map one)).cps from rfl]
    rw [Array.toList_append, Array.toList_append, ih]
    rfl
theorem join_ones (cs : List Nat) : (Txt.join "" (cs.map one)).cps.toList = cs := by
  rw [show Txt.join "" (cs.map one) = Str.join "" (cs.map one) from StrLaws.glued_eq_join "" _]
  exact str_join_ones cs
end Wm
namespace Wm
open PySem L2
theorem nd_by {l : List Str} {pl : Nat} {g : Nat → Nat} (h : ∀ (k : Nat) x, l[k]? = some x → x.cps.toList[pl]? = some (g k)) (hg : ∀ i j, i < j → j < l.length → g i ≠ g j) : l.Nodup := by
  refine List.pairwise_iff_getElem.mpr fun i j hi hj hij e => ?_
  have h1 := h i _ (List.getElem?_eq_getElem hi)
  have h2 := h j _ (List.getElem?_eq_getElem hj)
  rw [e, h2] at h1
  exact hg i j hij hj (Option.some.inj h1).symm
theorem letters_ne {o i j : Nat} (h : i < j) (hj : j < 26) : (o + i) % 26 ≠ (o + j) % 26 := by omega
theorem name_cons {pl c : Nat} {x : Str} (h : NameAt pl c x) : ∃ d t, x.cps.toList = d :: t ∧ isLow d = true ∧ t.all isLow = true := by
  obtain ⟨h1, h2, h3⟩ := h
  cases hx : x.cps.toList with
  | nil =>
    rw [hx] at h3
    cases h3
  | cons d t =>
    rw [hx, List.all_cons, Bool.and_eq_true] at h1
    exact ⟨d, t, rfl, h1.1, h1.2⟩
def capF (x : Str) : Str := Txt.upper (one (x.cps.toList.headD 0)) ++ cutS x (some 1) none
theorem cut_one {x : Str} {d : Nat} {t : List Nat} (h : x.cps.toList = d :: t) : (cutS x (some 1) none).cps.toList = t := by
  have hl : x.length = t.length + 1 := by
    have e := congrArg List.length h
    rw [Array.length_toList] at e
    exact e
  unfold cutS
  rw [show (1 : Int) = ((1 : Nat) : Int) from rfl, HT.sIx_nat, HT.sIx_none, h, hl, Nat.min_eq_left (by omega)]
  simp
theorem cap_cps {x : Str} {d : Nat} {t : List Nat} (h : x.cps.toList = d :: t) (hd : isLow d = true) : (capF x).cps.toList = (d - 32) :: t := by
  unfold capF
  rw [h, List.headD_cons, upper_one hd, show ((one (d - 32) ++ cutS x (some 1) none : Str)).cps = (one (d - 32)).cps ++ (cutS x (some 1) none).cps from rfl, Array.toList_append, cut_one h]
  rfl
theorem len_cps {x : Str} {l : List Nat} (h : x.cps.toList = l) : x.length = l.length := by
  have e := congrArg List.length h
  rw [Array.length_toList] at e
  exact e
theorem cap_kind {pl c : Nat} {x : Str} (h : NameAt pl c x) : kindName (capF x) = true := by
  obtain ⟨d, t, e, hd, ht⟩ := name_cons h
  have e2 := cap_cps e hd
  have l1 := len_cps e
  have l2 := len_cps e2
  have h8 := h.2.1
  unfold kindName
  rw [l2, e2]
  unfold isLow at hd
  simp only [List.length_cons, Bool.and_eq_true, decide_eq_true_eq] at hd l1 ⊢
  refine ⟨by omega, by omega, ?_, ht⟩
  unfold isUp
  simp only [Bool.and_eq_true, decide_eq_true_eq]
  omega
theorem cap_at {pl c : Nat} {x : Str} (h : NameAt pl c x) : (capF x).cps.toList[pl]? = some (if pl = 0 then c - 32 else c) := by
  obtain ⟨d, t, e, hd, ht⟩ := name_cons h
  have h3 := h.2.2
  rw [cap_cps e hd]
  rw [e] at h3
  cases pl with
  | zero =>
    cases h3
    rfl
  | succ k => exact h3
theorem caps_nodup {pl o : Nat} {l : List Str} (h : NamesAt pl o l) (hl : l.length ≤ 20) : (l.map capF).Nodup := by
  refine nd_by (pl := pl) (g := fun k => if pl = 0 then 97 + (o + k) % 26 - 32 else 97 + (o + k) % 26) (fun k x hx => ?_) (fun i j hij hj => ?_)
  · rw [List.getElem?_map] at hx
    cases e : l[k]? with
    | none =>
      rw [e] at hx
      cases hx
    | some y =>
      rw [e] at hx
      cases hx
      exact cap_at (h k y e)
  · rw [List.length_map] at hj
    have := letters_ne (o := o) hij (by omega)
    by_cases z : pl = 0
    · simp only [if_pos z]
      omega
    · simp only [if_neg z]
      omega
def sufs : List Str → List (Str × List Str)
  | [] => []
  | x :: t => (x, t) :: sufs t
theorem sufs_len : ∀ (l : List Str), (sufs l).length = l.length
  | [] => rfl
  | x :: t => by simp [sufs, sufs_len t]
theorem sufs_at {l : List Str} : ∀ {i : Nat} {a : Str × List Str}, (sufs l)[i]? = some a → l[i]? = some a.1 ∧ l.drop (i + 1) = a.2 := by
  induction l with
  | nil => intro i a h; simp [sufs] at h
  | cons x t ih =>
    intro i a h
    cases i with
    | zero =>
      cases h
      exact ⟨rfl, rfl⟩
    | succ i => exact ih (i := i) (a := a) h
theorem sufs_last : ∀ (l : List Str), ((sufs l).filter fun a => !decide (a.1 ∈ a.2)).map (fun a => V.str a.1) = (lastOcc l).map V.str
  | [] => rfl
  | x :: t => by
    have ih := sufs_last t
    unfold sufs lastOcc
    by_cases h : x ∈ t
    · rw [if_pos h, List.filter_cons_of_neg (by simp [h])]
      exact ih
    · rw [if_neg h, List.filter_cons_of_pos (by simp [h]), List.map_cons, ih, List.map_cons]
theorem cut_from {xs : List V} {k : Nat} : cutV xs (some (k : Int)) none = xs.drop k := by
  unfold cutV
  rw [HT.sIx_nat, HT.sIx_none]
  by_cases h : k ≤ xs.length
  · rw [Nat.min_eq_left h]
    exact List.take_of_length_le (by rw [List.length_drop]; exact Nat.le_refl _)
  · rw [Nat.min_eq_right (by omega), List.drop_of_length_le (Nat.le_refl _), List.drop_of_length_le (by omega)]
    simp
theorem flat_le {α β : Type} {f : α → List β} {k : Nat} : ∀ {l : List α}, (∀ x, x ∈ l → (f x).length ≤ k) → (l.flatMap f).length ≤ l.length * k
  | [], _ => by simp
  | a :: l, h => by
    have ih := flat_le (l := l) fun x hx => h x (by simp [hx])
    have h1 := h a (by simp)
    rw [List.flatMap_cons, List.length_append, List.length_cons, Nat.succ_mul]
    omega
theorem RowsOk.take {all : List Str} {rows : List Row} (h : RowsOk all rows) (i : Nat) : RowsOk all (rows.take i) := by
  intro k r e
  rw [List.getElem?_take] at e
  by_cases hk : k < i
  · rw [if_pos hk] at e
    rw [List.take_take, Nat.min_eq_left (Nat.le_of_lt hk)]
    exact h k r e
  · rw [if_neg hk] at e
    cases e
theorem own_len {all : List Str} {rows : List Row} (ok : RowsOk all rows) (o : Str) : (ownOf rows o).length ≤ 4 := by
  unfold ownOf
  cases hf : rows.find? (fun r => r.name == o) with
  | none => exact Nat.zero_le _
  | some x =>
    obtain ⟨k, hk⟩ := List.mem_iff_getElem?.mp (List.mem_of_find?_eq_some hf)
    have okx := ok k x hk
    have hin : x.name ∈ lineF (rows.take k ++ [x]) x.name := by
      rw [line_new okx.fresh, mem_last]
      simp
    have h4 := okx.flen
    unfold fieldsF at h4
    obtain ⟨l1, l2, e⟩ := List.append_of_mem (List.mem_reverse.mpr hin)
    rw [e, List.flatMap_append, List.flatMap_cons, own_new okx.fresh] at h4
    simp only [List.length_append, List.length_map] at h4
    show x.own.length ≤ 4
    omega
theorem fields_len {all : List Str} {rows : List Row} (ok : RowsOk all rows) {n : Str} (hn : n ∈ names rows) : (fieldsF rows n).length ≤ 4 := by
  obtain ⟨r, hr, rfl⟩ := List.mem_map.mp hn
  obtain ⟨k, hk⟩ := List.mem_iff_getElem?.mp hr
  have okr := ok k r hk
  have e : rows = (rows.take k ++ [r]) ++ rows.drop (k + 1) := by
    rw [← take_more hk, List.take_append_drop]
  have hb : ∀ (j : Nat) x, (rows.take k ++ [r])[j]? = some x → ∀ b, b ∈ x.bases → b ∈ names ((rows.take k ++ [r]).take j) := ((ok.take k).snoc okr).bs
  have := okr.flen
  rw [e, fields_keep hb (by unfold names; rw [List.map_append]; exact List.mem_append_right _ (by simp))]
  exact this
theorem conc_sub {rows : List Row} {o : Str} (h : o ∈ concF rows) : o ∈ names rows := by
  obtain ⟨r, hr, rfl⟩ := List.mem_map.mp h
  exact List.mem_map_of_mem (List.mem_filter.mp hr).1
end Wm
namespace Wm
open PySem L2
structure BFr (p c qN qP qR : Addr) (nm pool : List Str) (rows : List Row) (H H' : Hp) : Prop where
  st : PenStep p c H H'
  n : H' qN = some (.lst (nm.map V.str))
  po : H' qP = some (.lst (pool.map V.str))
  r : RowsAt H' qR rows
section
variable {p c qN qP qR q : Addr} {nm pool : List Str} {rows : List Row} {H H1 H2 : Hp}
theorem BFr.step (h : BFr p c qN qP qR nm pool rows H H1) (s : PenStep p c H1 H2) : BFr p c qN qP qR nm pool rows H H2 :=
  ⟨h.st.trans s, s.at h.st.pen h.n rfl, s.at h.st.pen h.po rfl, h.r.step h.st.pen s⟩
theorem BFr.same (h : BFr p c qN qP qR nm pool rows H H1) (s : Same H1 H2) : BFr p c qN qP qR nm pool rows H H2 :=
  ⟨h.st.same s, s _ _ h.n, s _ _ h.po, h.r.same s⟩
theorem BFr.put {xs ys : List V} (h : BFr p c qN qP qR nm pool rows H H1) (hp : PenAt H p c) (nq : H q = none) (e : H1 q = some (.lst xs)) (n1 : qN ≠ q) (n2 : qP ≠ q) (n3 : qR ≠ q) : BFr p c qN qP qR nm pool rows H (upd H1 q (.lst ys)) := by
  refine ⟨h.st.put hp nq, by rw [upd_ne n1]; exact h.n, by rw [upd_ne n2]; exact h.po, ?_⟩
  obtain ⟨vs, e1, k⟩ := h.r
  exact ⟨vs, by rw [upd_ne n3]; exact e1, all2_rows k (tx_lst e)⟩
theorem BFr.add {xs : List V} {r : Row} {v : V} (h : BFr p c qN qP qR nm pool rows H H1) (hp : PenAt H p c) (nR : H qR = none) (e : H1 qR = some (.lst xs)) (hx : All2 (RowAt H1) rows xs) (hv : RowAt H1 r v) (n1 : qN ≠ qR) (n2 : qP ≠ qR) : BFr p c qN qP qR nm pool (rows ++ [r]) H (upd H1 qR (.lst (xs ++ [v]))) :=
  ⟨h.st.put hp nR, by rw [upd_ne n1]; exact h.n, by rw [upd_ne n2]; exact h.po, xs ++ [v], upd_same, All2.snoc (R := RowAt (upd H1 qR (.lst (xs ++ [v])))) (hv.tx (tx_lst e)) (all2_rows hx (tx_lst e))⟩
end
end Wm
namespace Wm
open PySem PySem.Spec PyProof.Rows PySem.W
section
variable {prog : Program} {w : World} {A : Around} {E : Value → Shared → Prop} {s : Shared} {T : String} {r d : Addr} {n : Nat} {Pv : Nat → Value → Prop} {OK : Heap → Prop}
theorem collect_src {Q : List Value → Shared → Prop} (K : KdlSrc prog w T r d n Pv OK) (hh : A.handled = none) (hok : OK s.heap) (hn : n ≤ sizeLine)
    (hQ : ∀ h' tk acc, (∀ b o, s.heap.get? b = some o → h'.get? b = some o) → ItemsOf Pv acc n → Q acc.toList { s with heap := h', toks := tk }) : wpAny (model prog w) A (collect (.ref r)) Q E s := by
  have lt := K.there _ hok
  have g1 : (s.heap.push { cls := .type "list", data := .seq ([] : List Value).toArray }).get? s.heap.objs.size = some { cls := .type "list", data := .seq #[] 0 } := Heap.get?_push_size _ rfl
  have g2 : OK (s.heap.push { cls := .type "list", data := .seq ([] : List Value).toArray }) := K.keep _ _ hok fun b _ o e => Heap.get?_push_of_some _ e
  (unfold collect; refine wpAny_bind (wpAny_runValue (codeAny_builtin PySem.F.entry_proto_collect ?_)); rw [Around.under_plainId PySem.F.plain_proto_collect _])
  (show wpAny _ A.in1 (newList [] >>= fun l => again (.builtin "list.__iadd__" ⟨[l, .ref r], []⟩)) _ _ s; refine wpAny_bind (wpAny_newObj_type ?_))
  (refine wpAny_pure ⟨plainId_quiet PySem.F.plain_list_iadd _, codeAny_builtin PySem.F.entry_list_iadd ?_⟩; rw [Around.under_plainId PySem.F.plain_list_iadd _])
  show wpAny _ A.in1 (Builtin.List.listExtendWith (.ref s.heap.objs.size) (.ref r) (.ref s.heap.objs.size)) _ _ { s with heap := s.heap.push { cls := .type "list", data := .seq ([] : List Value).toArray } }
  let R : Result → Shared → Prop := fun r0 s' => r0 = .ok (.ret (.ref s.heap.objs.size)) ∧ ∃ h' tk acc' c', s' = { s with heap := h', toks := tk } ∧ (∀ b o, s.heap.get? b = some o → h'.get? b = some o) ∧ h'.get? s.heap.objs.size = some { cls := .type "list", dict := none, data := .seq acc' c', slots := #[] } ∧ ItemsOf Pv acc' n
  have fin : ∀ r0 s', R r0 s' → ∃ f, r0 = .ok (.ret (.ref s.heap.objs.size)) ∧ f = s' ∧ wpAny (model prog w) A (load s.heap.objs.size >>= fun o => match o.data with | .seq xs _ => pure xs.toList | _ => unsupported "internal:collect") Q E s' := fun r0 s' z => by
    obtain ⟨e, h', tk, acc', c', rfl, keep, g3, hacc⟩ := z
    exact ⟨_, e, rfl, wpAny_bind (wpAny_load g3 (wpAny_pure (hQ h' tk acc' keep hacc)))⟩
  refine wpAny_mono (kdl_extend (R := R) (s := { s with heap := s.heap.push { cls := .type "list", data := .seq ([] : List Value).toArray } }) K hh g2 s.heap.objs.size (Nat.ne_of_gt lt.1) (Nat.ne_of_gt lt.2) (.ref s.heap.objs.size) 0 g1 (fun h' tk acc' c' hk g3 hacc => ⟨rfl, h', tk, acc', c', rfl, fun b o e => hk b o (Nat.ne_of_lt (Heap.lt_size e)) (Heap.get?_push_of_some _ e), g3, hacc⟩) hn) (fun f s' z => ?_) (fun e s' z => by cases z.1)
  cases f with
  | done f =>
    obtain ⟨_, e, _, q⟩ := fin _ _ z
    cases e
    exact q
  | again c' => exact ⟨z.1, codeAny_mono z.2 fun r0 s'' hr => by obtain ⟨_, e, _, q⟩ := fin _ _ hr; subst e; exact q⟩
theorem tuple_of_src {Q : Value → Shared → Prop} (K : KdlSrc prog w T r d n Pv OK) (hh : A.handled = none) (hok : OK s.heap) (hn : n ≤ sizeLine)
    (hQ : ∀ (h' : Heap) (tk : Nat) (acc : Array Value), (∀ b o, s.heap.get? b = some o → h'.get? b = some o) → ItemsOf Pv acc n → Q (.ref h'.objs.size) { s with heap := h'.push { cls := .type "tuple", data := .seq acc }, toks := tk }) : wpAny (model prog w) A (call (.type "tuple") [.ref r]) Q E s := by
  refine callType_codes (T := "tuple") (Bi := Builtin.«object.__init__») (Q₁ := fun ob s1 => s1.TypeIs ob "tuple" ∧ Q ob s1) PySem.F.called_tuple (PySem.F.typeCall_tuple_1 _) PySem.F.entry_object_init ?_ (fun ob s1 z => ⟨z.1, PySem.F.args_object_init_2 _ _, object_init_meets PySem.F.called_tuple.init.lookup PySem.F.called_tuple.made (by decide) prog w A.in1 _ s1 ⟨z.1, rfl, z.2⟩⟩)
  (refine codeAny_of_tree ?_; show wpAny _ _ (do checkBuiltinCall "tuple.__new__" ⟨[.type "tuple", .ref r], []⟩; again (.builtin "tuple.__new__" ⟨[.type "tuple", .ref r], []⟩)) _ _ s; refine wpAny_bind (wpAny_of_eq (PySem.F.newCall_tuple_1 _) (wpAny_pure ⟨plainId_quiet (by decide +kernel) _, codeAny_builtin PySem.F.entry_tuple_new ?_⟩)); rw [Around.under_plainId (by decide +kernel) _])
  have f1 := sub_tuple_self; have f2 := init_tuple_lookup; have f3 := madeHere_tuple; have f4 := K.type s hok; have f5 := K.notTuple
  have hh2 : A.in1.in1.handled = none := by simp [hh]
  wp_walk using wpAny_typeOf f4, collect_src (A := A.in1.in1) K hh2 hok hn
  intro h' tk acc keep hacc
  have hz : acc.toList.toArray.size ≤ sizeLine := by simp only [Array.toArray_toList]; rw [hacc.1]; exact hn
  (show wpAny _ _ (Builtin.Tuple.tupleExact acc.toList.toArray >>= fun v => ret v) _ _ _; unfold Builtin.Tuple.tupleExact; refine wpAny_bind (wpAny_newObj_type ?_ (show acc.toList.toArray.size ≤ sizeLine from hz)))
  have ea : acc.toList.toArray = acc := by simp
  rw [ea]
  exact wpAny_pure ⟨⟨_, Heap.get?_push_size _ rfl, rfl⟩, hQ h' tk acc keep hacc⟩
end
section
open L2
variable {X : Cx}
def rTupD : List V → Hp → VK → Prop := fun xs H Q => ∃ p kvs, xs = [.ref p] ∧ H p = some (.dK kvs) ∧ ∀ q, H q = none → Q (.ref q) (upd H q (.tup (kvs.map fun kv => kV kv.1)))
theorem c_tupD (hc : X.calm = true) : CallR X (.type "tuple") rTupD := by
  intro pins s σ H xs us Q I r h
  obtain ⟨p, kvs, e, hk, q⟩ := h
  subst e
  obtain ⟨u, eu, rx⟩ := vals1 r
  subst eu
  obtain rfl : u = Value.ref p := rx
  obtain ⟨z, lo, vs, rk, hd⟩ := (show ObjOk X.prog X.w H s.heap p (.dK kvs) from I.hok p _ hk)
  obtain ⟨ep, hat⟩ := hd.dictAt
  have hl : kvs.length = vs.length := Paired.length rk
  refine tuple_of_src (kdl_dict (knd := mixKind X.prog X.w) (kvs := vs) (ep := ep) lo) (I.ok.hd hc) hat (hl ▸ z) fun h' tk acc keep hacc => ?_
  have I1 : Inv X pins σ H { s with heap := h', toks := tk } := I.kept keep
  have ob : ObjOk X.prog X.w (upd H h'.objs.size (.tup (kvs.map fun kv => kV kv.1))) (h'.push { cls := .type "tuple", data := .seq acc }) h'.objs.size (.tup (kvs.map fun kv => kV kv.1)) := by
    have el : acc.toList.length = acc.size := by simp
    refine ⟨by rw [List.length_map]; exact z, acc.toList, L2.vals_of_at (by rw [List.length_map, el, hacc.1, hl]) fun j x v h1 h2 => ?_, by rw [Array.toArray_toList]; exact IsTup.new _ _⟩
    obtain ⟨k, y, hky, hi⟩ := hacc.2 j v (by rw [← Array.getElem?_toList]; exact h2)
    have e1 : (kvs.map (·.1))[j]? = some k := by
      rw [KV.keys rk, List.getElem?_map, hky] <;> rfl
    have e2 : (kvs.map fun kv => kV kv.1)[j]? = some (kV k) := by
      rw [show (kvs.map fun kv => kV kv.1) = (kvs.map (·.1)).map kV from by rw [List.map_map]; rfl, List.getElem?_map, e1] <;> rfl
    rw [e2] at h1
    cases h1
    exact keyIs_rel hi
  exact ⟨.ref h'.objs.size, _, I1.laid (t' := tk) (fun b o e => Heap.get?_push_of_some _ e) (Nat.le_refl _) ob, rfl, q _ (I1.hok.fresh (Nat.le_refl _))⟩
theorem r_tupD {H : Hp} {Q : VK} {p : Addr} {kvs : List (Key × V)} (h : H p = some (.dK kvs)) (k : ∀ q H', H q = none → Same H H' → H' q = some (.tup (kvs.map fun kv => kV kv.1)) → Q (.ref q) H') : rTupD [.ref p] H Q := ⟨p, kvs, rfl, h, fun q n => k q _ n (same_new n) upd_same⟩
set_option maxRecDepth 8000 in
theorem ext_tup (l : Addr) (items : Array Value) (n : Nat) (b : Addr) (items2 : Array Value) (n2 : Nat) (od) (os) (hs0 : ¬(!items.isEmpty && Builtin.List.listTooLong (items.size + items2.size)) = true) (hs1 : items.size ≤ sizeLine) (hs2 : items.size + items2.size ≤ sizeLine + 1 := by seq_fits) :
    Meets (Builtin.«list.extend» ⟨[.ref l, .ref b], []⟩) (fun _ R s => s.heap.get? l = some { cls := .type "list", dict := none, data := .seq items n, slots := #[] } ∧ s.heap.get? b = some { cls := .type "tuple", dict := od, data := .seq items2 n2, slots := os } ∧ R (.ok (.ret Value.none)) { s with heap := s.heap.update l (Obj.mapSeq fun x => x ++ items2), toks := s.toks }) :=
  .of_wp fun prog w A R s h => by
    obtain ⟨hp, g, d, tk, ot⟩ := s; obtain ⟨hl, hb, h⟩ := h; have f1 := PySem.AutoSeq1.idx_int; have f2 := PySem.AutoSeq1.sub_tuple_tuple; have f3 := PySem.AutoSeq1.sub_list_list; have f4 := PySem.AutoSeq1.sub_tuple_list; have f5 := PySem.AutoSeq1.sub_list_tuple;
    have hz' : (items ++ items2).size ≤ sizeLine + 1 := by rw [Array.size_append]; exact hs2
    wp_walk using (wpAny_updateSeq hl rfl (hz := hs1) (_hz' := hz')), PySem.AutoSeq1.wpAny_loadPart' hl, PySem.AutoSeq1.wpAny_loadPart' hb; exact ⟨_, rfl, h⟩
def rExtT : V → List V → Hp → VK → Prop := fun x vs H Q => ∃ l b xs zs, x = .ref l ∧ vs = [.ref b] ∧ H l = some (.lst xs) ∧ H b = some (.tup zs) ∧ xs.length + zs.length ≤ sizeLine ∧ Q .non (upd H l (.lst (xs ++ zs)))
theorem mt_extT : MtM X "list.extend" rExtT := by
  intro pins s σ H x vs v us Q I rx rv h
  obtain ⟨l, b, xs, zs, rfl, rfl, hH, hB, hz, q⟩ := h
  cases rx
  obtain ⟨u, rfl, ru⟩ := rv.one
  cases ru
  obtain ⟨z, its, n, r, hl, e⟩ := I.lstM hH
  obtain ⟨z2, its2, r2, hT⟩ := (show ObjOk X.prog X.w H s.heap b (.tup zs) from I.hok b _ hB)
  obtain ⟨⟨oc, od, oa, os⟩, e2, rfl, n2, rfl⟩ := hT
  have hl2 : zs.length = its2.length := r2.length
  have hsz : its.toArray.size + its2.toArray.size ≤ sizeLine := by rw [List.size_toArray, List.size_toArray]; omega
  have hlong : ¬ (!its.toArray.isEmpty && Builtin.List.listTooLong (its.toArray.size + its2.toArray.size)) = true := by
    rw [notLongL hsz, Bool.and_false]
    exact Bool.false_ne_true
  refine call_meets F.slot_list_extend ⟨_, e, rfl⟩ F.entry_list_extend (F.args_list_extend_2 _ _)
    (ext_tup l its.toArray n b its2.toArray n2 od os hlong (by rw [List.size_toArray]; omega) (by omega)) ⟨e, e2, ?_⟩
  refine ⟨.non, _, I.lset (its' := its ++ its2) hH e (by simp) (r.append r2) ?_, rfl, q⟩
  rw [List.length_append]
  omega
theorem r_extT {H : Hp} {Q : VK} {l b : Addr} {xs zs : List V} (hl : H l = some (.lst xs)) (hb : H b = some (.tup zs)) (hz : xs.length + zs.length ≤ sizeLine)
    (k : Q .non (upd H l (.lst (xs ++ zs)))) : rExtT (.ref l) [.ref b] H Q := ⟨l, b, xs, zs, rfl, rfl, hl, hb, hz, k⟩
end
section
open L2
variable {X : Cx}
def rInSign : R2 := fun x y H Q => ∃ (c : Nat) (z : Str), x = .str ⟨#[c]⟩ ∧ y = .str z ∧ Q (.bl (decide (c ∈ z.cps.toList))) H
theorem op_inSign : OpR X (compareOp .In) rInSign := op_in_sign
theorem r_inSign {c : Nat} {z : Str} {H : Hp} {Q : VK} (q : Q (.bl (decide (c ∈ z.cps.toList))) H) : rInSign (.str ⟨#[c]⟩) (.str z) H Q := ⟨c, z, rfl, rfl, q⟩
theorem fun_in {K : PySem.W.Frag} {x qual : Str} {st : Stmt} {f : Addr} {fd : FuncData} (F : Fun K x qual st f fd) : PySem.W.fnIn K f = true := by
  obtain ⟨oc, od, kV, doc, pm, an, cdv, ct, osl, rfl, lk, hcd⟩ := F.ex
  unfold PySem.W.fnIn
  rw [lk]
def rIxOwn (C : Addr) (sp : Sp) (E : XK) : R2 := fun x y H Q => ∃ a dx fs, x = .ref a ∧ H a = some (.ins C dx fs) ∧ sp [x, y] H Q E
def SubOwn (b : Expr) : Prop := ∀ o i, subscripted b true o i = runValue (.builtin "lifetime.subscript" ⟨[o, i], []⟩)
theorem pe_ixOwn {CX : CXT} {C f : Addr} {fd : FuncData} {ps : List Str} {k : Nat} {sp : Sp} {E : XK} {a b : Expr} {ta tb : TE} {pos : Pos} (F : FnOk X.prog X.w X.K X.mg X.base CX k f fd ps sp) (hr : Room (k + 1) X.A) (hm : Meth X.K C "__getitem__" f) (hf : PySem.W.fnIn X.K f = true) (hb : Binds X.K fd ps []) (hx : Passes CX X E)
    (ha : PE X a ta) (hi : PE X b tb) (hs : SubOwn b) : PE X (.Subscript a b pos) (tOp (rIxOwn C sp E) ta tb) := by
  refine ⟨fun pins s σ H Q I h => ?_⟩
  refine Subscript_ (binT ha hi I h fun v u s2 x y H2 I2 rx ry q => ?_)
  obtain ⟨o, dx, fs, rfl, ho, q⟩ := q
  cases rx
  obtain ⟨mA, J, _⟩ := ins_get I2.hok ho
  obtain ⟨od, J, _⟩ := J.look
  obtain ⟨m, hF⟩ := I2.fr
  refine PySem.W.sub_K hF I2.ok.mod.kin J hm.at_ hf hm.fn ?_ (hs _ _)
  have hl : [Value.ref o, u].length = ps.length := F.len _ _ _ _ q
  refine wpAny_call (codeAny_mono (F.run X.A.in1 X.stack s2 H2 ⟨[.ref o, u], []⟩ [.ref o, u] [.ref o, y] Q E hr.in1 I2.env0.in1 (by have := hb s2 [.ref o, u] I2.kIn (by rw [List.append_nil]; exact hl); rwa [List.append_nil] at this) (.cons rfl (.cons ry .nil)) q) fun r s' hq => ?_)
  cases r with
  | error e => exact hx pins σ H2 s2 e s' I2 hq
  | ok fl =>
    cases fl with
    | ret u' => exact I2.after hq
    | next => exact False.elim hq
    | brk => exact False.elim hq
    | cont => exact False.elim hq
theorem r_ixOwn {C o dx : Addr} {fs : List (Str × V)} {sp : Sp} {E : XK} {y : V} {H : Hp} {Q : VK} (h : H o = some (.ins C dx fs)) (q : sp [.ref o, y] H Q E) : rIxOwn C sp E (.ref o) y H Q := ⟨o, dx, fs, rfl, h, q⟩
end
end Wm
namespace Wm
open PySem L2 PySem.Spec PySem.W PySem.SeqAt
open PyProof.Rows hiding St
section
variable {D : Ends} {σ : St} {H : Hp} {Q : VK} {K : PySem.W.Frag}
theorem r_is {te : TE} {R : It → Hp → Prop} (h : te σ H fun v H1 => ∃ x, v = .str x ∧ R (Its x) H1) : iStr te σ H R := h
theorem r_isK {x : Str} {R : It → Hp → Prop} (q : R (Its x) H) : ∃ y : Str, V.str x = .str y ∧ R (Its y) H := ⟨x, rfl, q⟩
theorem r_ie {ta : TA} {R : It → Hp → Prop} (h : ta σ H fun vs H1 => ∃ a xs, vs = [.ref a] ∧ SqL K H1 a xs ∧ R (Ite K a) H1) : iEnum K ta σ H R := h
theorem r_ieK {a : Addr} {xs : List V} {R : It → Hp → Prop} (h : SqL K H a xs) (q : R (Ite K a) H) : ∃ b ys, [V.ref a] = [.ref b] ∧ SqL K H b ys ∧ R (Ite K b) H := ⟨a, xs, rfl, h, q⟩
theorem r_iv {ta : TA} {R : It → Hp → Prop} (h : ta σ H fun vs H1 => ∃ (a : Addr) (xs : List V), vs = [.ref a] ∧ SqL K H1 a xs ∧ R (Itv K a xs.length) H1) : iRev K ta σ H R := h
theorem r_iky {td : TE} {R : It → Hp → Prop} (h : td σ H fun x H1 => ∃ d o, x = .ref d ∧ ((∃ kvs, H1 d = some (.frz o (.dK kvs)) ∧ R (Itk d o kvs) H1) ∨ ∃ kvs, H1 d = some (.frz o (.dT kvs)) ∧ R (Itkt d o kvs) H1)) : iKeys td σ H R := h
theorem r_ikyK {d : Addr} {o : Obj} {kvs : List (Key × V)} {R : It → Hp → Prop} (h : H d = some (.frz o (.dK kvs))) (q : R (Itk d o kvs) H) : ∃ d' o', V.ref d = .ref d' ∧ ((∃ kvs, H d' = some (.frz o' (.dK kvs)) ∧ R (Itk d' o' kvs) H) ∨ ∃ kvs, H d' = some (.frz o' (.dT kvs)) ∧ R (Itkt d' o' kvs) H) := ⟨d, o, rfl, .inl ⟨kvs, h, q⟩⟩
theorem r_chain {r r' : R2} {ta tb tc : TE} (h : ta σ H fun x H1 => tb σ H1 fun y H2 => r x y H2 fun z H3 => ∃ k, z = .bl k ∧ (if k = true then tc σ H3 fun w' H4 => r' y w' H4 Q else Q (.bl false) H3)) : tChain r r' ta tb tc σ H Q := h
theorem r_allK {a : Addr} {bs : List Bool} (h : SqL K H a (bs.map V.bl)) (q : Q (.bl (bs.all id)) H) : rAll K [.ref a] H Q := ⟨a, bs, rfl, h, q⟩
theorem r_lenSet {ta : TE} (h : ta σ H fun x H1 => ∃ (l : Addr) (xs : List Str), x = .ref l ∧ SqA K H1 l (xs.map V.str) ∧ xs.length ≤ 1000 ∧ Q (.int ((nubS xs).length : Nat)) H1) : tLenSetS K ta σ H Q := h
theorem r_dIn {ty td : TE} (h : ty σ H fun y H1 => td σ H1 fun x H2 => ∃ a o, x = .ref a ∧ DGet H2 a y o ∧ Q (.bl o.isSome) H2) : tDIn ty td σ H Q := h
theorem r_isiT {x : V} {tp : Addr} {cs : List V} {t : String} {us : List Value} {b : Bool} (h : H tp = some (.tup cs)) (c : Paired ClsV cs us) (ty : TyX K H x (.type t)) (e : PySem.W.kitAny K (.type t) us = some b) (q : Q (.bl b) H) : rIsiT K [x, .ref tp] H Q := ⟨x, tp, cs, _, us, b, rfl, h, c, ty, e, q⟩
theorem r_lockE {t : TE} {d : Addr} {kvs : List (Key × V)} (h : H d = some (.dK kvs)) (k : ∀ od, t σ (upd H d (.frz od (.dK kvs))) fun v H' => H' d = some (.frz od (.dK kvs)) ∧ Q v (upd H' d (.dK kvs))) : tLockE t σ H Q := ⟨d, .dK kvs, h, trivial, k⟩
theorem r_dgetF {p : Addr} {od : Obj} {kvs : List (Key × V)} {k : Str} {v : V} {R : V → Prop} (h : H p = some (.frz od (.dK kvs))) (e : valV kvs (.inr k) = some v) (q : R v) : ∃ a v, V.ref p = .ref a ∧ DGet H a (.str k) (some v) ∧ R v := ⟨p, v, rfl, e ▸ .inl ⟨kvs, .inr k, .inr ⟨od, h⟩, rfl, rfl⟩, q⟩
theorem r_isiTT {x : V} {tp : Addr} {xs : List V} {q : Addr} (h : H tp = some (.tup [.ty "list", .ty "tuple"])) (hx : H q = some (.lst xs)) (k : Q (.bl true) H) : rIsiT K [.ref q, .ref tp] H Q := r_isiT h (.cons (.ty _) (.cons (.ty _) .nil)) (.base (.lst hx)) rfl k
end
def kfs (n : Str) (bv : V) (ab : Bool) (ov : V) (la fa : Addr) : List (Str × V) := [("name", .str n), ("bases", bv), ("is_abstract", .bl ab), ("own", ov), ("line", .ref la), ("fields", .ref fa)]
structure KndIn (C : Addr) (H : Hp) (rows : List Row) (r : Row) (a dx : Addr) (bv ov : V) (la fa : Addr) (fvs : List V) : Prop where
  at_ : H a = some (.ins C dx (kfs r.name bv r.abs ov la fa))
  bs : StrsAt H r.bases bv
  own : FldsAt H r.own ov
  line : H la = some (.tup ((lineF rows r.name).map V.str))
  flds : H fa = some (.tup fvs)
  f4 : All2 (F4At H) (fieldsF rows r.name) fvs
def KndAt (C : Addr) (H : Hp) (rows : List Row) (r : Row) (v : V) : Prop := ∃ a dx bv ov la fa fvs, v = .ref a ∧ KndIn C H rows r a dx bv ov la fa fvs
theorem KndIn.same {C : Addr} {H H' : Hp} {rows : List Row} {r : Row} {a dx la fa : Addr} {bv ov : V} {fvs : List V} (h : KndIn C H rows r a dx bv ov la fa fvs) (s : Same H H') : KndIn C H' rows r a dx bv ov la fa fvs :=
  ⟨s _ _ h.at_, h.bs.tx (tx_same s), h.own.tx (tx_same s), s _ _ h.line, s _ _ h.flds, all2_f4 h.f4 (tx_same s)⟩
theorem KndAt.same {C : Addr} {H H' : Hp} {rows : List Row} {r : Row} {v : V} (h : KndAt C H rows r v) (s : Same H H') : KndAt C H' rows r v := by
  obtain ⟨a, dx, bv, ov, la, fa, fvs, e, h⟩ := h
  exact ⟨a, dx, bv, ov, la, fa, fvs, e, h.same s⟩
def But (d : Addr) (H H' : Hp) : Prop := ∀ b o, b ≠ d → H b = some o → H' b = some o
theorem KndAt.but {C d : Addr} {H H' : Hp} {rows : List Row} {r : Row} {v : V} {kvs : List (Key × V)} (h : KndAt C H rows r v) (e : H d = some (.dK kvs)) (s : But d H H') : KndAt C H' rows r v := by
  have ne : ∀ {b : Addr} {o : HO}, H b = some o → (∀ l, o ≠ .dK l) → b ≠ d := fun h1 h2 z => by
    rw [z, e] at h1
    cases h1
    exact h2 _ rfl
  have tx : Tx H H' := fun b xs h1 => s _ _ (ne h1 (fun l z => by cases z)) h1
  obtain ⟨a, dx, bv, ov, la, fa, fvs, e2, h⟩ := h
  exact ⟨a, dx, bv, ov, la, fa, fvs, e2, s _ _ (ne h.at_ (fun l z => by cases z)) h.at_, h.bs.tx tx, h.own.tx tx, tx _ _ h.line, tx _ _ h.flds, all2_f4 h.f4 tx⟩
theorem KndAt.step {C p c : Addr} {H H' : Hp} {rows : List Row} {r : Row} {v : V} (h : KndAt C H rows r v) (hp : PenAt H p c) (s : PenStep p c H H') : KndAt C H' rows r v := by
  obtain ⟨a, dx, bv, ov, la, fa, fvs, e2, h⟩ := h
  have tx := tx_step hp s
  exact ⟨a, dx, bv, ov, la, fa, fvs, e2, s.at hp h.at_ rfl, h.bs.tx tx, h.own.tx tx, tx _ _ h.line, tx _ _ h.flds, all2_f4 h.f4 tx⟩
structure KnownAt (C : Addr) (H : Hp) (rows : List Row) (d : Addr) (kvs : List (Key × V)) : Prop where
  at_ : H d = some (.dK kvs)
  keys : kvs.map (·.1) = (names rows).map Sum.inr
  knd : ∀ r, r ∈ rows → ∃ v, valV kvs (.inr r.name) = some v ∧ KndAt C H rows r v
def sfs (rv nv dv : Addr) : List (Str × V) := [("rows", .ref rv), ("names", .ref nv), ("known", .ref dv)]
structure SchIn (C D : Addr) (H : Hp) (rows : List Row) (S dx rv nv dv : Addr) (rvs : List V) (kvs : List (Key × V)) : Prop where
  at_ : H S = some (.ins D dx (sfs rv nv dv))
  rws : H rv = some (.tup rvs)
  rall : All2 (RowAt H) rows rvs
  nms : H nv = some (.tup ((names rows).map V.str))
  kn : KnownAt C H rows dv kvs
def SchAt (C D : Addr) (H : Hp) (rows : List Row) (S : Addr) : Prop := ∃ dx rv nv dv rvs kvs, SchIn C D H rows S dx rv nv dv rvs kvs
theorem KnownAt.same {C d : Addr} {H H' : Hp} {rows : List Row} {kvs : List (Key × V)} (h : KnownAt C H rows d kvs) (s : Same H H') : KnownAt C H' rows d kvs :=
  ⟨s _ _ h.at_, h.keys, fun r hr => by
    obtain ⟨v, e, k⟩ := h.knd r hr
    exact ⟨v, e, k.same s⟩⟩
theorem SchAt.same {C D S : Addr} {H H' : Hp} {rows : List Row} (h : SchAt C D H rows S) (s : Same H H') : SchAt C D H' rows S := by
  obtain ⟨dx, rv, nv, dv, rvs, kvs, h⟩ := h
  exact ⟨dx, rv, nv, dv, rvs, kvs, s _ _ h.at_, s _ _ h.rws, all2_rows h.rall (tx_same s), s _ _ h.nms, h.kn.same s⟩
theorem SchAt.step {C D S p c : Addr} {H H' : Hp} {rows : List Row} (h : SchAt C D H rows S) (hp : PenAt H p c) (hn : ∀ dx rv nv dv rvs kvs, SchIn C D H rows S dx rv nv dv rvs kvs → dv ≠ p) (s : PenStep p c H H') : SchAt C D H' rows S := by
  obtain ⟨dx, rv, nv, dv, rvs, kvs, h⟩ := h
  refine ⟨dx, rv, nv, dv, rvs, kvs, s.at hp h.at_ rfl, s.at hp h.rws rfl, all2_rows h.rall (tx_step hp s), s.at hp h.nms rfl, s.atd h.kn.at_ (hn _ _ _ _ _ _ h), h.kn.keys, fun r hr => ?_⟩
  obtain ⟨v, e, k⟩ := h.kn.knd r hr
  exact ⟨v, e, k.step hp s⟩
theorem mem_row {rows : List Row} {n : Str} (h : n ∈ names rows) : ∃ r, r ∈ rows ∧ r.name = n := by
  obtain ⟨r, h1, h2⟩ := List.mem_map.mp h
  exact ⟨r, h1, h2⟩
theorem valV_none {kvs : List (Key × V)} {k : Key} (h : k ∉ kvs.map (·.1)) : valV kvs k = none := by
  unfold valV
  rw [List.find?_eq_none.mpr (fun kv hkv => by
    simp only [decide_eq_true_eq]
    intro e
    exact h (e ▸ List.mem_map_of_mem hkv))]
  rfl
theorem known_none {C d : Addr} {H : Hp} {rows : List Row} {kvs : List (Key × V)} {n : Str} (h : KnownAt C H rows d kvs) (hn : n ∉ names rows) : valV kvs (.inr n) = none := valV_none (by
  rw [h.keys]
  intro z
  obtain ⟨m, h1, h2⟩ := List.mem_map.mp z
  exact hn (Sum.inr.inj h2 ▸ h1))
theorem known_some {C d : Addr} {H : Hp} {rows : List Row} {kvs : List (Key × V)} {n : Str} (h : KnownAt C H rows d kvs) (hn : n ∈ names rows) : ∃ r v, r ∈ rows ∧ r.name = n ∧ valV kvs (.inr n) = some v ∧ KndAt C H rows r v := by
  obtain ⟨r, h1, rfl⟩ := mem_row hn
  obtain ⟨v, e, k⟩ := h.knd r h1
  exact ⟨r, v, h1, rfl, e, k⟩
def KnV (H : Hp) (v : V) (b : Bool) : Prop := (∃ x, v = .str x ∧ x.length ≤ sizeLine ∧ b = kindName x) ∨ (AnyV H v ∧ (∀ x, v ≠ .str x) ∧ b = false)
def spLow : Sp := fun vs H Q _ => ∃ (x : Str), vs = [.str x] ∧ x.length ≤ 100 ∧ ∀ H', Same H H' → Q (.bl (x.cps.toList.all isLow)) H'
def spKn : Sp := fun vs H Q _ => ∃ (v : V) (b : Bool), vs = [v] ∧ KnV H v b ∧ ∀ H', Same H H' → Q (.bl b) H'
def spFn : Sp := fun vs H Q _ => ∃ (x : Str), vs = [.str x] ∧ x.length ≤ sizeLine ∧ ∀ H', Same H H' → Q (.bl (fieldName x)) H'
def spMode : Sp := fun vs H Q _ => ∃ (x : Str), vs = [.str x] ∧ Q (.bl (decide (x ∈ MODESl))) H
def spFldOk : Sp := fun vs H Q _ => ∃ (f : Fld) (v : V) (T : Addr) (ts : List Str), vs = [v, .ref T] ∧ FldAt H f v ∧ H T = some (.lst (ts.map V.str)) ∧ ts.length ≤ 6 ∧ (fieldName f.1 = true ∧ f.2.1 ∈ MODESl ∧ f.2.2 ∈ ts) ∧ kindName f.2.2 = true ∧ ∀ H', Same H H' → Q (.bl true) H'
def spBasesOk : Sp := fun vs H Q _ => ∃ (ss : List Str) (v : V) (d : Addr) (kvs : List (Key × V)), vs = [v, .ref d] ∧ StrsAt H ss v ∧ H d = some (.dK kvs) ∧ ss.length ≤ 3 ∧ ss.Nodup ∧ (∀ x, x ∈ ss → kindName x = true ∧ (valV kvs (.inr x)).isSome = true) ∧ ∀ H', Same H H' → Q (.bl true) H'
def spKInit (C : Addr) : Sp := fun vs H Q _ => ∃ (a dx : Addr) (r : Row) (pre : List Row) (all : List Str) (v : V) (d : Addr) (kvs : List (Key × V)), vs = [.ref a, v, .ref d] ∧ H a = some (.ins C dx []) ∧ RowAt H r v ∧ KnownAt C H pre d kvs ∧ RowsOk all (pre ++ [r]) ∧ pre.length ≤ 5 ∧
  ∀ H', But a H H' → KndAt C H' (pre ++ [r]) r (.ref a) → Q .non H'
def spMkK (C : Addr) : Sp := fun vs H Q _ => ∃ (r : Row) (pre : List Row) (all : List Str) (v : V) (d T : Addr) (kvs : List (Key × V)), vs = [v, .ref d, .ref T] ∧ RowAt H r v ∧ KnownAt C H pre d kvs ∧ H T = some (.lst (all.map V.str)) ∧ RowsOk all (pre ++ [r]) ∧ pre.length ≤ 5 ∧ all.length ≤ 6 ∧ (∀ x, x ∈ all → kindName x = true) ∧
  ∀ a H', H a = none → Same H H' → KndAt C H' (pre ++ [r]) r (.ref a) → Q (.ref a) H'
def spSInit (C D : Addr) : Sp := fun vs H Q _ => ∃ (a dx L : Addr) (rows : List Row), vs = [.ref a, .ref L] ∧ H a = some (.ins D dx []) ∧ RowsAt H L rows ∧ SchOk rows ∧ ∀ H', But a H H' → SchAt C D H' rows a → (∀ dx rv nv dv rvs kvs, SchIn C D H' rows a dx rv nv dv rvs kvs → H dv = none) → Q .non H'
def known (rows : List Row) (v : V) : Prop := ∃ x, v = .str x ∧ x ∈ names rows
end Wm
namespace Wm
open PySem L2 PySem.Spec PySem.W PySem.SeqAt
open PyProof.Rows hiding St
theorem But.refl (a : Addr) (H : Hp) : But a H H := fun _ _ _ e => e
theorem But.same {a : Addr} {H H1 H2 : Hp} (b : But a H H1) (s : Same H1 H2) : But a H H2 := fun c o n e => s _ _ (b c o n e)
theorem But.self {a : Addr} {H H1 : Hp} {o : HO} (b : But a H H1) : But a H (upd H1 a o) := fun c u n e => by
  rw [upd_ne n]
  exact b c u n e
theorem But.put {a q : Addr} {H H1 : Hp} {o : HO} (b : But a H H1) (n : H q = none) : But a H (upd H1 q o) := fun c u m e => by
  rw [upd_ne (ne_of_none e n)]
  exact b c u m e
theorem But.free {a q : Addr} {H H1 : Hp} {o : HO} (b : But a H H1) (ea : H1 a = some o) (e : H1 q = none) : H q = none := by
  cases z : H q with
  | none => rfl
  | some u =>
    by_cases h : q = a
    · rw [h, ea] at e
      cases e
    · rw [b q u h z] at e
      cases e
theorem But.tx {a C dx : Addr} {fs : List (Str × V)} {H H1 : Hp} (b : But a H H1) (e : H a = some (.ins C dx fs)) : Tx H H1 := fun c xs h => b c _ (fun z => by
  rw [z, e] at h
  cases h) h
theorem KnownAt.butI {C d a dx C' : Addr} {H H' : Hp} {rows : List Row} {kvs : List (Key × V)} (h : KnownAt C H rows d kvs) (e : H a = some (.ins C' dx [])) (s : But a H H') : KnownAt C H' rows d kvs := by
  have tx := s.tx e
  refine ⟨s _ _ (fun z => by
    have := h.at_
    rw [z, e] at this
    cases this) h.at_, h.keys, fun r hr => ?_⟩
  obtain ⟨v, e1, k, kdx, bv, ov, la, fa, fvs, e2, h2⟩ := h.knd r hr
  exact ⟨v, e1, k, kdx, bv, ov, la, fa, fvs, e2, s _ _ (fun z => by
    have := h2.at_
    rw [z, e] at this
    cases this) h2.at_, h2.bs.tx tx, h2.own.tx tx, tx _ _ h2.line, tx _ _ h2.flds, all2_f4 h2.f4 tx⟩
theorem own_of {rows : List Row} {r : Row} (nd : (names rows).Nodup) (h : r ∈ rows) : ownOf rows r.name = r.own := by
  induction rows with
  | nil => cases h
  | cons x rows ih =>
    unfold ownOf
    rw [List.find?_cons]
    have ⟨n1, n2⟩ := List.nodup_cons.mp (show (x.name :: names rows).Nodup from nd)
    rcases List.mem_cons.mp h with rfl | h
    · rw [beq_self_eq_true]
    · have hne : (x.name == r.name) = false := by
        rw [beq_eq_false_iff_ne]
        intro z
        exact n1 (z ▸ List.mem_map_of_mem h)
      rw [hne]
      exact ih n2 h
theorem RowsOk.init {all : List Str} {pre : List Row} {r : Row} (h : RowsOk all (pre ++ [r])) : RowsOk all pre := by
  have := h.take pre.length
  rwa [List.take_append_of_le_length (Nat.le_refl _), List.take_length] at this
theorem RowsOk.last {all : List Str} {pre : List Row} {r : Row} (h : RowsOk all (pre ++ [r])) : RowOk all pre r := by
  have := h pre.length r (by simp)
  rwa [List.take_append_of_le_length (Nat.le_refl _), List.take_length] at this
theorem r_ifV {c : Bool} {ta tb : TE} {σ : St} {H : Hp} {Q : VK} (v : V) (h1 : c = true → ∀ R : VK, R v H → ta σ H R) (h2 : c = false → ∀ R : VK, R v H → tb σ H R) (k : Q v H) : if c = true then ta σ H Q else tb σ H Q := by
  cases c
  · exact iteF (h2 rfl _ k)
  · exact iteT (h1 rfl _ k)
theorem kind_split (x : Str) (h1 : 1 ≤ x.length) (h8 : x.length ≤ 8) : ∃ (c : Nat) (r : List Nat), x.cps.toList = c :: r ∧ kindName x = (isUp c && r.all isLow) ∧ (cutS x (some 1) none).cps.toList = r ∧ (cutS x (some 1) none).length = r.length := by
  cases e : x.cps.toList with
  | nil =>
    have : x.length = 0 := by
      show x.cps.size = 0
      rw [← Array.length_toList, e]
      rfl
    omega
  | cons c r =>
    have k : (cutS x (some 1) none).cps.toList = r := by
      exact cut_one e
    refine ⟨c, r, rfl, ?_, k, by rw [← k]; exact (Array.length_toList).symm⟩
    unfold kindName
    rw [e]
    simp [h1, h8]
theorem fieldName_len {x : Str} (h : fieldName x = true) : x.length ≤ 8 := by
  unfold fieldName at h
  simp only [Bool.and_eq_true, decide_eq_true_eq] at h
  exact h.2.1
theorem kindName_len {x : Str} (h : kindName x = true) : x.length ≤ 8 := by
  unfold kindName at h
  simp only [Bool.and_eq_true, decide_eq_true_eq] at h
  exact h.2.1
theorem RowsOk.kn {all : List Str} {rows : List Row} (h : RowsOk all rows) {n : Str} (hn : n ∈ names rows) : kindName n = true := by
  obtain ⟨r, h1, rfl⟩ := mem_row hn
  obtain ⟨k, hk⟩ := List.mem_iff_getElem?.mp h1
  exact (h k r hk).nm
end Wm
namespace Wm
open PySem L2 PySem.Spec PySem.W PySem.SeqAt
open PyProof.Rows hiding St
theorem KndAt.more {C : Addr} {H : Hp} {pre : List Row} {all : List Str} {r0 r : Row} {v : V} (h : KndAt C H pre r0 v) (ok : RowsOk all pre) (hm : r0.name ∈ names pre) : KndAt C H (pre ++ [r]) r0 v := by
  obtain ⟨a, dx, bv, ov, la, fa, fvs, e, k⟩ := h
  exact ⟨a, dx, bv, ov, la, fa, fvs, e, k.at_, k.bs, k.own, by rw [line_keep hm]; exact k.line, k.flds, by rw [fields_keep ok.bs hm]; exact k.f4⟩
theorem KnownAt.add {C : Addr} {H : Hp} {pre : List Row} {all : List Str} {r : Row} {d : Addr} {v : V} {kvs : List (Key × V)} (h : KnownAt C H pre d kvs) (hok : RowsOk all (pre ++ [r])) (hv : KndAt C H (pre ++ [r]) r v) :
    KnownAt C (upd H d (.dK (kvs ++ [(.inr r.name, v)]))) (pre ++ [r]) d (kvs ++ [(.inr r.name, v)]) := by
  have hn := known_none h hok.last.fresh
  have but : But d H (upd H d (.dK (kvs ++ [(.inr r.name, v)]))) := (But.refl d H).self
  refine ⟨upd_same, by simp [h.keys, names], fun r0 hr0 => ?_⟩
  rcases List.mem_append.mp hr0 with z | z
  · obtain ⟨v0, e0, k0⟩ := h.knd r0 z
    have hm : r0.name ∈ names pre := List.mem_map_of_mem z
    refine ⟨v0, ?_, (k0.more hok.init hm).but h.at_ but⟩
    rw [valV_snoc _ _ _ _ hn, if_neg (fun q => hok.last.fresh (by have z := Sum.inr.inj q; rw [← z]; exact hm)), e0]
  · simp only [List.mem_cons, List.not_mem_nil, or_false] at z
    subst z
    exact ⟨v, by rw [valV_snoc _ _ _ _ hn, if_pos rfl], hv.but h.at_ but⟩
theorem same_lock {H H' : Hp} {d : Addr} {u w : HO} (e : H d = some u) (s : Same (upd H d w) H') : Same H (upd H' d u) := fun b o h => by
  by_cases z : b = d
  · subst z
    rw [e] at h
    cases h
    exact upd_same
  · rw [upd_ne z]
    exact s _ _ (by rw [upd_ne z]; exact h)
theorem key_at {C d : Addr} {H : Hp} {rows : List Row} {kvs : List (Key × V)} {i : Nat} {k : Key} {v : V} {r : Row} (h : KnownAt C H rows d kvs) (e : kvs[i]? = some (k, v)) (hr : rows[i]? = some r) : k = .inr r.name := by
  have z : (kvs.map (·.1))[i]? = some k := by rw [List.getElem?_map, e] <;> rfl
  rw [h.keys, List.getElem?_map] at z
  unfold names at z
  rw [List.getElem?_map, hr] at z
  exact (Option.some.inj z).symm
theorem keys_v {C d : Addr} {H : Hp} {rows : List Row} {kvs : List (Key × V)} (h : KnownAt C H rows d kvs) : (kvs.map fun kv => kV kv.1) = (names rows).map V.str := by
  rw [show (kvs.map fun kv => kV kv.1) = (kvs.map (·.1)).map kV from by rw [List.map_map]; rfl, h.keys, List.map_map]
  rfl
theorem RowsAt.at {H : Hp} {L i : Nat} {rows : List Row} {vs : List V} (h : All2 (RowAt H) rows vs) {v : V} (e : vs[i]? = some v) : ∃ r, rows[i]? = some r ∧ RowAt H r v := h.right e
theorem all_abs {rows : List Row} (h : ∃ r, r ∈ rows ∧ r.abs = false) : (rows.map (·.abs)).all id = false := by
  obtain ⟨r, h1, h2⟩ := h
  rw [List.all_eq_false]
  exact ⟨r.abs, List.mem_map_of_mem h1, by simp [h2]⟩
theorem KnownAt.butF {C d a dx C' : Addr} {fs : List (Str × V)} {H H' : Hp} {rows : List Row} {kvs : List (Key × V)} (h : KnownAt C H rows d kvs) (hl : fs.length < 6) (e : H a = some (.ins C' dx fs)) (s : But a H H') : KnownAt C H' rows d kvs := by
  have tx := s.tx e
  refine ⟨s _ _ (fun z => by
    have := h.at_
    rw [z, e] at this
    cases this) h.at_, h.keys, fun r hr => ?_⟩
  obtain ⟨v, e1, k, kdx, bv, ov, la, fa, fvs, e2, h2⟩ := h.knd r hr
  exact ⟨v, e1, k, kdx, bv, ov, la, fa, fvs, e2, s _ _ (fun z => by
    have := h2.at_
    rw [z, e] at this
    have q := (HO.ins.inj (Option.some.inj this)).2.2
    rw [q] at hl
    simp [kfs] at hl) h2.at_, h2.bs.tx tx, h2.own.tx tx, tx _ _ h2.line, tx _ _ h2.flds, all2_f4 h2.f4 tx⟩
end Wm
namespace Wm
open PySem L2 PySem.Spec PySem.W PySem.SeqAt
open PyProof.Rows hiding St
def badK (rows : List Row) (v : V) : Prop := ∀ n, v = .str n → n ∉ names rows
theorem KnV.same {H H' : Hp} {v : V} {b : Bool} (h : KnV H v b) (s : Same H H') : KnV H' v b := h.imp id fun ⟨a, c⟩ => ⟨a.same s, c⟩
def GotK (ad : Addr) (H : Hp) (E : XK) (v : V) : Prop := ∀ d H', Same H H' → H d = none → H' d = some (.xd [("kind", v)]) → E (.ref ad) (some d) H'
def spGet (C D N : Addr) : Sp := fun vs H Q E => ∃ (S : Addr) (rows : List Row) (v : V) (b : Bool), vs = [.ref S, v] ∧ SchAt C D H rows S ∧ SchOk rows ∧ KnV H v b ∧
  (∀ r kv H', v = .str r.name → r ∈ rows → Same H H' → KndAt C H' rows r kv → Q kv H') ∧ (badK rows v → GotK N H E v)
def spIsU (C D N : Addr) : Sp := fun vs H Q E => ∃ (S : Addr) (rows : List Row) (v w : V) (b c : Bool), vs = [.ref S, v, w] ∧ SchAt C D H rows S ∧ SchOk rows ∧ KnV H v b ∧ KnV H w c ∧
  (∀ n m H', v = .str n → w = .str m → n ∈ names rows → m ∈ names rows → Same H H' → Q (.bl (decide (m ∈ lineF rows n))) H') ∧ (badK rows v → GotK N H E v) ∧ (¬ badK rows v → badK rows w → GotK N H E w)
theorem GotK.same {N : Addr} {H H1 : Hp} {E : XK} {v : V} (h : GotK N H E v) (s : Same H H1) : GotK N H1 E v := fun d H' s' n e => h d H' (s.trans s') (s.free n) e
end Wm
namespace Wm
open PySem L2 PySem.Spec PySem.W PySem.SeqAt
open PyProof.Rows hiding St
section
variable {X : Cx}
def oneV (v : V) : Prop := flatB v = true ∨ ∃ a, v = .ref a
theorem AnyV.one {H : Hp} {v : V} (h : AnyV H v) : oneV v := by
  cases v with
  | non => exact .inl rfl
  | bl b => exact .inl rfl
  | int i => exact .inl rfl
  | str x => exact .inl rfl
  | ref a => exact .inr ⟨a, rfl⟩
  | _ => exact h.elim
end
end Wm
namespace Wm
open PySem L2 PySem.Spec PySem.W PySem.SeqAt
open PyProof.Rows hiding St
def Wrong (p : Addr) (H : Hp) (rows : List Row) (v : V) : Prop := OddV p H v ∧ (∃ b, ∀ H', AnyV H' v → KnV H' v b) ∧ badK rows v
theorem Wrong.kn {p : Addr} {H H' : Hp} {rows : List Row} {v : V} (h : Wrong p H rows v) (s : Same H H') : ∃ b, KnV H' v b := by
  obtain ⟨o, ⟨b, k⟩, _⟩ := h
  exact ⟨b, k H' (o.1.same s)⟩
theorem Wrong.same {p : Addr} {H H' : Hp} {rows : List Row} {v : V} (h : Wrong p H rows v) (s : Same H H') : Wrong p H' rows v := ⟨h.1.same s, h.2⟩
theorem Wrong.step {p c : Addr} {H H' : Hp} {rows : List Row} {v : V} (h : Wrong p H rows v) (s : PenStep p c H H') : Wrong p H' rows v := ⟨h.1.step s, h.2⟩
end Wm
namespace Wm
open PySem L2 PySem.Spec PySem.W PySem.SeqAt
open PyProof.Rows hiding St
end Wm
namespace Wm
open PySem L2 PySem.Spec PySem.W PySem.SeqAt
open PyProof.Rows hiding St
section
variable {X : Cx} {pins : List (Addr × Obj)} {σ : St} {H : Hp} {s : Shared}
end
end Wm
namespace Wm
open PySem L2 PySem.Spec PySem.W PySem.SeqAt Sem
open PyProof.Rows hiding St
end Wm
namespace Wm
open PySem L2 PySem.Spec PySem.W PySem.SeqAt
open PyProof.Rows hiding St
end Wm
namespace Wm
open PySem L2 PySem.Spec PySem.W PySem.SeqAt Sem
open PyProof.Rows hiding St
end Wm
namespace Wm
open PySem L2 PySem.Spec PySem.W PySem.SeqAt
open PyProof.Rows hiding St
abbrev FldD := T3 Str Str Str
abbrev RowD := T4 Str (Tup Str) Bool (Tup FldD)
def fldD (f : Fld) : FldD := ⟨f.1, f.2.1, f.2.2⟩
def rowD (r : Row) : RowD := ⟨r.name, ⟨r.bases⟩, r.abs, ⟨r.own.map fldD⟩⟩
section
variable {K : PySem.W.Frag} {H : Hp}
theorem dp_fld {f : Fld} {v : V} (h : FldAt H f v) : Dp K H v (Datum.toD (fldD f)) := by
  obtain ⟨a, rfl, e⟩ := h
  exact .tup (.of e) (.cons (.str _) (.cons (.str _) (.cons (.str _) .nil)))
theorem dps_of {α : Type} {β : Type} [DecidableEq β] [Datum β] {R : α → V → Prop} {g : α → β} (hR : ∀ a v, R a v → Dp K H v (Datum.toD (g a))) : ∀ {l : List α} {vs : List V}, All2 R l vs → DpAll K H vs ((l.map g).map Datum.toD)
  | _, _, .nil => .nil
  | _, _, .cons h r => .cons (hR _ _ h) (dps_of hR r)
theorem dp_flds {fs : List Fld} {v : V} (h : FldsAt H fs v) : Dp K H v (Datum.toD (Tup.mk (fs.map fldD))) := by
  obtain ⟨a, vs, rfl, e, r⟩ := h
  exact .tup (.of e) (dps_of (g := fldD) (fun _ _ => dp_fld) r)
theorem dp_strsV {ss : List Str} {v : V} (h : StrsAt H ss v) : Dp K H v (Datum.toD (Tup.mk ss)) := by
  obtain ⟨a, rfl, e⟩ := h
  exact dp_strsT e
theorem dp_row {r : Row} {v : V} (h : RowAt H r v) : Dp K H v (Datum.toD (rowD r)) := by
  obtain ⟨a, bv, ov, rfl, e, hb, ho⟩ := h
  exact .tup (.of e) (.cons (.str _) (.cons (dp_strsV hb) (.cons (.bl _) (.cons (dp_flds ho) .nil))))
theorem dp_rowsT {L : Addr} {rows : List Row} {vs : List V} (e : H L = some (.tup vs)) (r : All2 (RowAt H) rows vs) : Dp K H (.ref L) (Datum.toD (Tup.mk (rows.map rowD))) := .tup (.of e) (dps_of (g := rowD) (fun _ _ => dp_row) r)
end
theorem ite_ns {α : Type} {x : α} [d : Decidable (x = x)] {A B : Prop} (h : B) : if (!decide (x = x)) = true then A else B := by
  rw [if_neg (by simp)]
  exact h
theorem ite_es {α : Type} {x : α} [d : Decidable (x = x)] {A B : Prop} (h : A) : if (decide (x = x)) = true then A else B := by
  rw [if_pos (by simp)]
  exact h
theorem flat_ge {α β : Type} {f : α → List β} {x : α} : ∀ {l : List α}, x ∈ l → (f x).length ≤ (l.flatMap f).length
  | [], h => by cases h
  | y :: l, h => by
    rw [List.flatMap_cons, List.length_append]
    rcases List.mem_cons.mp h with rfl | h
    · omega
    · have := flat_ge (f := f) h
      omega
theorem RowsOk.own_len {all : List Str} {rows : List Row} {r : Row} (h : RowsOk all rows) (hr : r ∈ rows) : r.own.length ≤ 4 := by
  obtain ⟨k, e⟩ := List.mem_iff_getElem?.mp hr
  have ok := h k r e
  have hm : r.name ∈ (lineF (rows.take k ++ [r]) r.name).reverse := by
    rw [List.mem_reverse, line_new ok.fresh, mem_last]
    exact List.mem_cons_self
  have := flat_ge (f := fun o => (ownOf (rows.take k ++ [r]) o).map fun f => ((f.1, f.2.1, f.2.2, o) : Fld4)) hm
  have h4 := ok.flen
  unfold fieldsF at h4
  rw [own_new ok.fresh, List.length_map] at this
  omega
def KpL (H H' : Hp) : Prop := ∀ a o, H a = some o → (∀ xs, o ≠ .lst xs) → H' a = some o
theorem KpL.refl (H : Hp) : KpL H H := fun _ _ h _ => h
theorem KpL.trans {H H1 H2 : Hp} (a : KpL H H1) (b : KpL H1 H2) : KpL H H2 := fun c o h n => b c o (a c o h n) n
theorem kpl_lst {H : Hp} {q : Addr} {xs ys : List V} (h : H q = some (.lst xs)) : KpL H (upd H q (.lst ys)) := fun a o e n => by
  have : a ≠ q := fun z => by
    rw [z, h] at e
    cases e
    exact n _ rfl
  rw [upd_ne this]
  exact e
theorem KpL.tx {H H' : Hp} (k : KpL H H') : Tx H H' := fun a xs e => k a _ e fun _ z => by cases z
theorem KndAt.kpl {C : Addr} {H H' : Hp} {rows : List Row} {r : Row} {v : V} (h : KndAt C H rows r v) (k : KpL H H') : KndAt C H' rows r v := by
  obtain ⟨a, dx, bv, ov, la, fa, fvs, e, h⟩ := h
  exact ⟨a, dx, bv, ov, la, fa, fvs, e, k _ _ h.at_ (fun _ z => by cases z), h.bs.tx k.tx, h.own.tx k.tx, k.tx _ _ h.line, k.tx _ _ h.flds, all2_f4 h.f4 k.tx⟩
theorem KnownAt.kpl {C d : Addr} {H H' : Hp} {rows : List Row} {kvs : List (Key × V)} (h : KnownAt C H rows d kvs) (k : KpL H H') : KnownAt C H' rows d kvs :=
  ⟨k _ _ h.at_ (fun _ z => by cases z), h.keys, fun r hr => by
    obtain ⟨v, hv, kn⟩ := h.knd r hr
    exact ⟨v, hv, kn.kpl k⟩⟩
theorem SchAt.kpl {C D S : Addr} {H H' : Hp} {rows : List Row} (h : SchAt C D H rows S) (k : KpL H H') : SchAt C D H' rows S := by
  obtain ⟨dx, rv, nv, dv, rvs, kvs, h⟩ := h
  exact ⟨dx, rv, nv, dv, rvs, kvs, k _ _ h.at_ (fun _ z => by cases z), k.tx _ _ h.rws, all2_rows h.rall k.tx, k.tx _ _ h.nms, h.kn.kpl k⟩
theorem row_uniq {rows : List Row} {r s : Row} (nd : (names rows).Nodup) (hr : r ∈ rows) (hs : s ∈ rows) (e : r.name = s.name) : r = s := by
  induction rows with
  | nil => cases hr
  | cons x l ih =>
    unfold names at nd ih
    rw [List.map_cons, List.nodup_cons] at nd
    rcases List.mem_cons.mp hr with rfl | h1
    · rcases List.mem_cons.mp hs with rfl | h2
      · rfl
      · exact absurd (List.mem_map.mpr ⟨s, h2, e.symm⟩) nd.1
    · rcases List.mem_cons.mp hs with rfl | h2
      · exact absurd (List.mem_map.mpr ⟨r, h1, e⟩) nd.1
      · exact ih nd.2 h1 h2
def SchN (C D : Addr) (H : Hp) (rows : List Row) (S p : Addr) : Prop := ∃ dx rv nv dv rvs kvs, SchIn C D H rows S dx rv nv dv rvs kvs ∧ dv ≠ p
theorem SchN.sch {C D S p : Addr} {H : Hp} {rows : List Row} (h : SchN C D H rows S p) : SchAt C D H rows S := by
  obtain ⟨dx, rv, nv, dv, rvs, kvs, h, _⟩ := h
  exact ⟨dx, rv, nv, dv, rvs, kvs, h⟩
theorem SchN.of {C D S p : Addr} {H H0 : Hp} {rows : List Row} (h : SchAt C D H rows S) (nd : ∀ dx rv nv dv rvs kvs, SchIn C D H rows S dx rv nv dv rvs kvs → H0 dv = none) (hp : ∃ o, H0 p = some o) : SchN C D H rows S p := by
  obtain ⟨dx, rv, nv, dv, rvs, kvs, h⟩ := h
  refine ⟨dx, rv, nv, dv, rvs, kvs, h, fun z => ?_⟩
  obtain ⟨o, e⟩ := hp
  have := nd _ _ _ _ _ _ h
  rw [z, e] at this
  cases this
theorem SchN.same {C D S p : Addr} {H H' : Hp} {rows : List Row} (h : SchN C D H rows S p) (s : Same H H') : SchN C D H' rows S p := by
  obtain ⟨dx, rv, nv, dv, rvs, kvs, h, n⟩ := h
  exact ⟨dx, rv, nv, dv, rvs, kvs, ⟨s _ _ h.at_, s _ _ h.rws, all2_rows h.rall (tx_same s), s _ _ h.nms, h.kn.same s⟩, n⟩
theorem SchN.kpl {C D S p : Addr} {H H' : Hp} {rows : List Row} (h : SchN C D H rows S p) (k : KpL H H') : SchN C D H' rows S p := by
  obtain ⟨dx, rv, nv, dv, rvs, kvs, h, n⟩ := h
  exact ⟨dx, rv, nv, dv, rvs, kvs, ⟨k _ _ h.at_ (fun _ z => by cases z), k.tx _ _ h.rws, all2_rows h.rall k.tx, k.tx _ _ h.nms, h.kn.kpl k⟩, n⟩
theorem SchN.step {C D S p c : Addr} {H H' : Hp} {rows : List Row} (h : SchN C D H rows S p) (hp : PenAt H p c) (s : PenStep p c H H') : SchN C D H' rows S p := by
  obtain ⟨dx, rv, nv, dv, rvs, kvs, h, n⟩ := h
  have t := tx_step hp s
  exact ⟨dx, rv, nv, dv, rvs, kvs, ⟨s.at hp h.at_ rfl, t _ _ h.rws, all2_rows h.rall t, t _ _ h.nms, s.atd h.kn.at_ n, h.kn.keys, fun r hr => by
    obtain ⟨v, hv, kn⟩ := h.kn.knd r hr
    exact ⟨v, hv, kn.step hp s⟩⟩, n⟩
def spSEq (C D : Addr) : Sp := fun vs H Q _ => ∃ (S T : Addr) (rows more : List Row), vs = [.ref S, .ref T] ∧ SchAt C D H rows S ∧ SchAt C D H more T ∧ Q (.bl (decide (rows.map rowD = more.map rowD))) H
end Wm
namespace Wm
open PySem L2 PySem.Spec PySem.W PySem.SeqAt
open PyProof.Rows hiding St
def tStarA (K : PySem.W.Frag) (te : TE) (t : TA) : TA := fun σ H Q => te σ H fun y H1 => ∃ a xs, y = .ref a ∧ (SqT K H1 a xs ∨ SqL K H1 a xs) ∧ t σ H1 fun ys H2 => Q (xs ++ ys) H2
theorem r_starA {K : PySem.W.Frag} {te : TE} {t : TA} {σ : St} {H : Hp} {Q : List V → Hp → Prop} (h : te σ H fun y H1 => ∃ a xs, y = .ref a ∧ (SqT K H1 a xs ∨ SqL K H1 a xs) ∧ t σ H1 fun ys H2 => Q (xs ++ ys) H2) : tStarA K te t σ H Q := h
theorem app_list (a b : Str) : (a ++ b).cps.toList = a.cps.toList ++ b.cps.toList := by
  show (a.cps ++ b.cps).toList = _
  simp
end Wm
namespace Wm
open PySem L2 PySem.Spec PySem.W PySem.SeqAt
open PyProof.Rows hiding St
section
variable {X : Cx} {CX : CXT} {k : Nat} {f C : Addr} {fd : FuncData} {ps : List Str} {ds : List Value} {dvs : List V} {sp : Sp} {E : XK} {x : Str} {p pos : Pos} {e : Expr} {es : List Expr} {t : TA}
def tMakeL (i : Nat) (C : Addr) (sp : Sp) (dvs : List V) (E : XK) (t : TA) : TE := fun σ H Q => σ[i]? = some (some (.ref C)) ∧ tMake C sp dvs E t σ H Q
theorem r_makeL {σ : St} {H : Hp} {Q : VK} {i : Nat} (hs : σ[i]? = some (some (.ref C))) (h : tMake C sp dvs E t σ H Q) : tMakeL i C sp dvs E t σ H Q := ⟨hs, h⟩
end
theorem r_ifW {c : TTw} {t u : TS} {D : Ends} {σ : St} {H : Hp} (h : c σ H fun k σ1 H1 => if k = true then t D σ1 H1 else u D σ1 H1) : tIfW c t u D σ H := h
theorem r_wCmp {r : R2} {ta : TEw} {tb : TE} {σ : St} {H : Hp} {Q : Bool → St → Hp → Prop} (h : ta σ H fun x σ1 H1 => tb σ1 H1 fun y H2 => r x y H2 fun z H3 => ∃ k, z = .bl k ∧ Q k σ1 H3) : wCmp r ta tb σ H Q := h
theorem r_wNm {t : TEw} {i : Nat} {σ : St} {H : Hp} {Q : V → St → Hp → Prop} (h : t σ H fun x σ1 H1 => Q x (σ1.set i (some x)) H1) : wNm t i σ H Q := h
theorem r_wE {t : TE} {σ : St} {H : Hp} {Q : V → St → Hp → Prop} (h : t σ H fun x H1 => Q x σ H1) : wE t σ H Q := h
end Wm
namespace Wm
open PySem L2 PySem.Spec PySem.W PySem.SeqAt
open PyProof.Rows hiding St
def RowForm (r : Row) : Prop := kindName r.name = true ∧ r.bases.all kindName = true ∧ ∀ f, f ∈ r.own → fieldName f.1 = true ∧ f.2.1 ∈ MODESl ∧ kindName f.2.2 = true
theorem SchOk.forms {rows : List Row} (h : SchOk rows) : ∀ r, r ∈ rows → RowForm r := fun r hr => by
  obtain ⟨k, e⟩ := List.mem_iff_getElem?.mp hr
  have ok := h.ok k r e
  refine ⟨ok.nm, List.all_eq_true.mpr fun b hb => h.ok.kn ?_, fun f hf => ⟨(ok.own f hf).1, (ok.own f hf).2.1, h.ok.kn (ok.own f hf).2.2⟩⟩
  have := ok.bsub b hb
  unfold names at this ⊢
  obtain ⟨x, hx, e⟩ := List.mem_map.mp this
  exact List.mem_map.mpr ⟨x, List.mem_of_mem_take hx, e⟩
end Wm
namespace Wm
open PySem L2 PySem.Spec PySem.W PySem.SeqAt
open PyProof.Rows hiding St
structure RowSm (r : Row) : Prop where
  form : RowForm r
  bl : r.bases.length ≤ 3
  ol : r.own.length ≤ 4
theorem SchOk.sm {rows : List Row} (h : SchOk rows) {r : Row} (hr : r ∈ rows) : RowSm r := by
  obtain ⟨k, e⟩ := List.mem_iff_getElem?.mp hr
  exact ⟨h.forms r hr, (h.ok k r e).blen, h.ok.own_len hr⟩
end Wm
namespace Wm
open PySem L2 PySem.Spec PySem.W PySem.SeqAt
open PyProof.Rows hiding St
def inBk (Q : VK) : VK := fun v H' => ∃ n : Int, v = .int n ∧ 0 ≤ n ∧ n < 2 ^ 63 ∧ Q (.int n) H'
section
variable {X : Cx} {CX : CXT} {C f : Addr} {fd : FuncData} {ps : List Str} {k : Nat} {sp : Sp} {E : XK}
def rLenOwn (C : Addr) (sp : Sp) (E : XK) : List V → Hp → VK → Prop := fun xs H Q => ∃ a dx fs, xs = [.ref a] ∧ H a = some (.ins C dx fs) ∧ sp [.ref a] H (inBk Q) E
theorem c_lenOwn (F : FnOk X.prog X.w X.K X.mg X.base CX k f fd ps sp) (hr : Room (k + 1) X.A) (hm : Meth X.K C "__len__" f) (hb : Binds X.K fd ps []) (hx : Passes CX X E) : CallR X (.builtin "len") (rLenOwn C sp E) := by
  intro pins s σ H xs us Q I r h
  obtain ⟨a, dx, fs, rfl, ha, q⟩ := h
  obtain ⟨u, rfl, ru⟩ := vals1 r
  cases ru
  obtain ⟨mA, J, _⟩ := ins_get I.hok ha
  obtain ⟨od, J, _⟩ := J.look
  obtain ⟨m, hF⟩ := I.fr
  have hr2 : Room k X.A.in1 := hr.in1
  refine PySem.W.len_K hF I.ok.mod.kin J hm.at_ hm.fn ?_
  have hl : [Value.ref a].length = ps.length := F.len _ _ _ _ q
  refine wpAny_call (codeAny_mono (F.run X.A.in1 X.stack s H ⟨[.ref a], []⟩ [.ref a] [.ref a] (inBk Q) E hr2 I.env0.in1 (by have := hb s [.ref a] I.kIn (by rw [List.append_nil]; exact hl); rwa [List.append_nil] at this) (.cons rfl .nil) q) fun r s' hq => ?_)
  cases r with
  | error e => exact hx pins σ H s e s' I hq
  | ok fl =>
    cases fl with
    | ret u =>
      obtain ⟨v, H', I', rv, n, rfl, h0, h1, q'⟩ := I.after hq
      obtain ⟨t, rfl⟩ := rv
      exact ⟨⟨h0, h1⟩, V.int n, H', I'.tok _, ⟨_, rfl⟩, q'⟩
    | next => exact False.elim hq
    | brk => exact False.elim hq
    | cont => exact False.elim hq
end
theorem r_lenOwn {C o dx : Addr} {fs : List (Str × V)} {sp : Sp} {E : XK} {H : Hp} {Q : VK} (h : H o = some (.ins C dx fs)) (q : sp [.ref o] H (inBk Q) E) : rLenOwn C sp E [.ref o] H Q := ⟨o, dx, fs, rfl, h, q⟩
end Wm
namespace Wm
open PySem L2 PySem.Spec PySem.W PySem.SeqAt
open PyProof.Rows hiding St
structure G5 where
  m : Str
  a : Str
  b : Str
  k : Str
  e : Str
def G5.l (g : G5) : List Str := [g.m, g.a, g.b, g.k, g.e]
structure G5Ok (g : G5) : Prop where
  m : g.m ∈ MARKSl
  a : g.a ∈ ACTSl
  b : g.b ∈ BYl
  k : g.k ∈ KEEPSl
  e : g.e ∈ BYl
  pl : plain5 g.m g.a g.b g.k g.e = g.l
def noG : G5 := ⟨"none", "ring", "same", "none", "same"⟩
structure Wk where
  start : Str
  gs : List (Str × G5)
  out : List (Str × Str)
  anew : List (Str × Str)
  lim : Option Nat
  frees : Bool
def ownPairs (rows : List Row) : List (Str × Str) := rows.flatMap fun r => r.own.map fun f => (r.name, f.1)
structure WkOk (rows : List Row) (w : Wk) : Prop where
  st : w.start ∈ names rows
  un : underF rows w.start ≠ []
  gs : (w.gs.map (·.1)).Sublist (names rows)
  g5 : ∀ x, x ∈ w.gs → G5Ok x.2
  out : w.out.Sublist (ownPairs rows)
  anew : w.anew.Sublist (ownPairs rows)
  dis : ∀ x, x ∈ w.out → x ∉ w.anew
  lim : ∀ n, w.lim = some n → n ≤ 20
def limV : Option Nat → V
  | none => .non
  | some n => .int (n : Nat)
def G5At (H : Hp) (g : G5) (v : V) : Prop := ∃ q, v = .ref q ∧ H q = some (.tup (g.l.map V.str))
def GPairAt (H : Hp) (x : Str × G5) (kv : Key × V) : Prop := kv.1 = .inr x.1 ∧ G5At H x.2 kv.2
def wkvs (gd ol al : Addr) (lim : V) (fr : Bool) (st : V) : List (Key × V) := [(.inr "guards", .ref gd), (.inr "out", .ref ol), (.inr "anew", .ref al), (.inr "limit", lim), (.inr "frees", .bl fr), (.inr "start", st)]
structure WkIn (H : Hp) (w : Wk) (W gd ol al : Addr) (gvs : List (Key × V)) (ovs avs : List V) : Prop where
  at_ : H W = some (.dK (wkvs gd ol al (limV w.lim) w.frees (.str w.start)))
  gat : H gd = some (.dK gvs)
  g : All2 (GPairAt H) w.gs gvs
  oat : H ol = some (.lst ovs)
  o : All2 (PairAt H) w.out ovs
  aat : H al = some (.lst avs)
  a : All2 (PairAt H) w.anew avs
def WkAt (H : Hp) (w : Wk) (W p : Addr) : Prop := ∃ gd ol al gvs ovs avs, WkIn H w W gd ol al gvs ovs avs ∧ W ≠ p ∧ gd ≠ p ∧ W ≠ gd
theorem GPairAt.tx {H H' : Hp} {x : Str × G5} {kv : Key × V} (h : GPairAt H x kv) (t : Tx H H') : GPairAt H' x kv := by
  obtain ⟨h1, q, h2, h3⟩ := h
  exact ⟨h1, q, h2, t _ _ h3⟩
theorem WkAt.same {H H' : Hp} {w : Wk} {W p : Addr} (h : WkAt H w W p) (s : Same H H') : WkAt H' w W p := by
  obtain ⟨gd, ol, al, gvs, ovs, avs, i, n1, n2⟩ := h
  have t := tx_same s
  exact ⟨gd, ol, al, gvs, ovs, avs, ⟨s _ _ i.at_, s _ _ i.gat, i.g.mono (fun _ _ z => z.tx t), s _ _ i.oat, all2_pairs i.o t, s _ _ i.aat, all2_pairs i.a t⟩, n1, n2⟩
theorem WkAt.step {H H' : Hp} {w : Wk} {W p c : Addr} (h : WkAt H w W p) (hp : PenAt H p c) (s : PenStep p c H H') : WkAt H' w W p := by
  obtain ⟨gd, ol, al, gvs, ovs, avs, i, n1, n2⟩ := h
  have t := tx_step hp s
  exact ⟨gd, ol, al, gvs, ovs, avs, ⟨s.atd i.at_ n1, s.atd i.gat n2.1, i.g.mono (fun _ _ z => z.tx t), s.at hp i.oat rfl, all2_pairs i.o t, s.at hp i.aat rfl, all2_pairs i.a t⟩, n1, n2⟩
def GuAt (C : Addr) (H : Hp) (g : G5) (v : V) : Prop := ∃ a dx, v = .ref a ∧ H a = some (.ins C dx (gfs g.l))
theorem GuAt.same {C : Addr} {H H' : Hp} {g : G5} {v : V} (h : GuAt C H g v) (s : Same H H') : GuAt C H' g v := by
  obtain ⟨a, dx, rfl, e⟩ := h
  exact ⟨a, dx, rfl, s _ _ e⟩
end Wm
namespace Wm
open PySem L2 PySem.Spec PySem.W PySem.SeqAt
open PyProof.Rows hiding St
theorem piece_nd {α β : Type} {f : α → List β} {x : α} : ∀ {l : List α}, x ∈ l → (l.flatMap f).Nodup → (f x).Nodup
  | [], h, _ => by cases h
  | y :: l, h, nd => by
    rw [List.flatMap_cons, List.nodup_append] at nd
    rcases List.mem_cons.mp h with rfl | h
    · exact nd.1
    · exact piece_nd h nd.2.1
theorem RowsOk.own_nd {all : List Str} {rows : List Row} {r : Row} (ok : RowsOk all rows) (hr : r ∈ rows) : (r.own.map (·.1)).Nodup := by
  obtain ⟨k, e⟩ := List.mem_iff_getElem?.mp hr
  have okr := ok k r e
  have h := okr.fnd
  unfold fieldsF at h
  rw [List.map_flatMap] at h
  have hm : r.name ∈ (lineF (rows.take k ++ [r]) r.name).reverse := by
    rw [List.mem_reverse, line_new okr.fresh, mem_last]
    exact List.mem_cons_self
  have := piece_nd hm h
  rwa [own_new okr.fresh, List.map_map] at this
theorem nd_map_on {α β : Type} {f : α → β} (hf : ∀ a b, f a = f b → a = b) : ∀ {l : List α}, l.Nodup → (l.map f).Nodup
  | [], _ => List.Pairwise.nil
  | a :: l, h => by
    rw [List.nodup_cons] at h
    rw [List.map_cons, List.nodup_cons]
    refine ⟨fun z => ?_, nd_map_on hf h.2⟩
    obtain ⟨b, hb, e⟩ := List.mem_map.mp z
    exact h.1 (hf _ _ e ▸ hb)
theorem own_pairs_mem {rows : List Row} {x : Str × Str} (h : x ∈ ownPairs rows) : x.1 ∈ names rows := by
  unfold ownPairs at h
  obtain ⟨r, hr, h⟩ := List.mem_flatMap.mp h
  obtain ⟨f, _, rfl⟩ := List.mem_map.mp h
  exact List.mem_map_of_mem hr
theorem own_pairs_snoc (rows : List Row) (r : Row) : ownPairs (rows ++ [r]) = ownPairs rows ++ r.own.map fun f => (r.name, f.1) := by
  unfold ownPairs
  rw [List.flatMap_append]
  simp
structure WkPre (ns : List Str) (P : List (Str × Str)) (w : Wk) : Prop where
  gs : (w.gs.map (·.1)).Sublist ns
  g5 : ∀ x, x ∈ w.gs → G5Ok x.2
  out : w.out.Sublist P
  anew : w.anew.Sublist P
  dis : ∀ x, x ∈ w.out → x ∉ w.anew
theorem WkPre.guard {ns : List Str} {P : List (Str × Str)} {w : Wk} {n : Str} {g : G5} (h : WkPre ns P w) (hg : G5Ok g) : WkPre (ns ++ [n]) P { w with gs := w.gs ++ [(n, g)] } := by
  refine ⟨?_, fun x hx => ?_, h.out, h.anew, h.dis⟩
  · simp only [List.map_append, List.map_cons, List.map_nil]
    exact List.Sublist.append h.gs (List.Sublist.refl _)
  · rcases List.mem_append.mp hx with z | z
    · exact h.g5 x z
    · simp only [List.mem_cons, List.not_mem_nil, or_false] at z
      subst z
      exact hg
theorem WkPre.none {ns : List Str} {P : List (Str × Str)} {w : Wk} {x : Str × Str} (h : WkPre ns P w) : WkPre ns (P ++ [x]) w := ⟨h.gs, h.g5, h.out.trans (List.sublist_append_left _ _), h.anew.trans (List.sublist_append_left _ _), h.dis⟩
structure Dst (W gd ol al p : Addr) : Prop where
  Wp : W ≠ p
  gp : gd ≠ p
  op : ol ≠ p
  ap : al ≠ p
  Wg : W ≠ gd
  Wo : W ≠ ol
  Wa : W ≠ al
  go : gd ≠ ol
  ga : gd ≠ al
  oa : ol ≠ al
theorem WkIn.same {H H' : Hp} {w : Wk} {W gd ol al : Addr} {gvs : List (Key × V)} {ovs avs : List V} (i : WkIn H w W gd ol al gvs ovs avs) (s : Same H H') : WkIn H' w W gd ol al gvs ovs avs := by
  have t := tx_same s
  exact ⟨s _ _ i.at_, s _ _ i.gat, i.g.mono (fun _ _ z => z.tx t), s _ _ i.oat, all2_pairs i.o t, s _ _ i.aat, all2_pairs i.a t⟩
theorem WkIn.step {H H' : Hp} {w : Wk} {W gd ol al p c : Addr} {gvs : List (Key × V)} {ovs avs : List V} (i : WkIn H w W gd ol al gvs ovs avs) (d : Dst W gd ol al p) (hp : PenAt H p c) (s : PenStep p c H H') : WkIn H' w W gd ol al gvs ovs avs := by
  have t := tx_step hp s
  exact ⟨s.atd i.at_ d.Wp, s.atd i.gat d.gp, i.g.mono (fun _ _ z => z.tx t), s.atd i.oat d.op, all2_pairs i.o t, s.atd i.aat d.ap, all2_pairs i.a t⟩
theorem WkIn.keys {H : Hp} {w : Wk} {W gd ol al : Addr} {gvs : List (Key × V)} {ovs avs : List V} (i : WkIn H w W gd ol al gvs ovs avs) : gvs.map (·.1) = w.gs.map fun x => Sum.inr x.1 := by
  have h := i.g
  generalize w.gs = l at h
  generalize gvs = m at h
  induction h with
  | nil => rfl
  | cons a _ ih =>
    simp only [List.map_cons, ih]
    rw [a.1]
theorem WkIn.new {H : Hp} {w : Wk} {W gd ol al : Addr} {gvs : List (Key × V)} {ovs avs : List V} {n : Str} (i : WkIn H w W gd ol al gvs ovs avs) (h : n ∉ w.gs.map (·.1)) : valV gvs (.inr n) = none := valV_none (by
  rw [i.keys]
  intro z
  obtain ⟨x, hx, e⟩ := List.mem_map.mp z
  exact h (List.mem_map.mpr ⟨x, hx, Sum.inr.inj e⟩))
theorem WkIn.putG {H : Hp} {w : Wk} {W gd ol al p : Addr} {gvs : List (Key × V)} {ovs avs : List V} {n : Str} {g : G5} {v : V} (i : WkIn H w W gd ol al gvs ovs avs) (d : Dst W gd ol al p) (hg : G5At H g v) :
    WkIn (upd H gd (.dK (gvs ++ [(.inr n, v)]))) { w with gs := w.gs ++ [(n, g)] } W gd ol al (gvs ++ [(.inr n, v)]) ovs avs := by
  have t : Tx H (upd H gd (.dK (gvs ++ [(.inr n, v)]))) := tx_dic i.gat
  obtain ⟨q, rfl, e⟩ := hg
  exact ⟨(upd_ne d.Wg).trans i.at_, upd_same, (i.g.mono (fun _ _ z => z.tx t)).snoc ⟨rfl, q, rfl, t _ _ e⟩, (upd_ne (Ne.symm d.go)).trans i.oat, all2_pairs i.o t, (upd_ne (Ne.symm d.ga)).trans i.aat, all2_pairs i.a t⟩
theorem WkIn.putA {H : Hp} {w : Wk} {W gd ol al p : Addr} {gvs : List (Key × V)} {ovs avs : List V} {x : Str × Str} {v : V} (i : WkIn H w W gd ol al gvs ovs avs) (d : Dst W gd ol al p) (hv : PairAt H x v) :
    WkIn (upd H al (.lst (avs ++ [v]))) { w with anew := w.anew ++ [x] } W gd ol al gvs ovs (avs ++ [v]) := by
  have t : Tx H (upd H al (.lst (avs ++ [v]))) := tx_lst i.aat
  exact ⟨(upd_ne d.Wa).trans i.at_, (upd_ne d.ga).trans i.gat, i.g.mono (fun _ _ z => z.tx t), (upd_ne d.oa).trans i.oat, all2_pairs i.o t, upd_same, (all2_pairs i.a t).snoc (hv.tx t)⟩
theorem WkIn.putL {H : Hp} {w : Wk} {W gd ol al p : Addr} {gvs : List (Key × V)} {ovs avs : List V} {n : Nat} (i : WkIn H w W gd ol al gvs ovs avs) (d : Dst W gd ol al p) :
    WkIn (upd H W (.dK (wkvs gd ol al (.int (n : Nat)) w.frees (.str w.start)))) { w with lim := some n } W gd ol al gvs ovs avs := by
  have t : Tx H (upd H W (.dK (wkvs gd ol al (.int (n : Nat)) w.frees (.str w.start)))) := tx_dic i.at_
  exact ⟨upd_same, (upd_ne (Ne.symm d.Wg)).trans i.gat, i.g.mono (fun _ _ z => z.tx t), (upd_ne (Ne.symm d.Wo)).trans i.oat, all2_pairs i.o t, (upd_ne (Ne.symm d.Wa)).trans i.aat, all2_pairs i.a t⟩
section
variable (gd ol al : Addr) (l : V) (f : Bool) (s : V)
theorem wk_get_guards : valV (wkvs gd ol al l f s) (.inr "guards") = some (.ref gd) := rfl
theorem wk_get_out : valV (wkvs gd ol al l f s) (.inr "out") = some (.ref ol) := rfl
theorem wk_get_anew : valV (wkvs gd ol al l f s) (.inr "anew") = some (.ref al) := rfl
theorem wk_get_limit : valV (wkvs gd ol al l f s) (.inr "limit") = some l := rfl
theorem wk_get_frees : valV (wkvs gd ol al l f s) (.inr "frees") = some (.bl f) := rfl
theorem wk_get_start : valV (wkvs gd ol al l f s) (.inr "start") = some s := rfl
theorem wk_put_limit (v : V) : putK (wkvs gd ol al l f s) (.inr "limit") v = wkvs gd ol al v f s := rfl
end
end Wm
namespace Wm
open PySem L2 PySem.Spec PySem.W PySem.SeqAt
open PyProof.Rows hiding St
def Frt (H : Hp) (a : Addr) (xs : List V) : Prop := ∃ o, o.dict = none ∧ H a = some (.frz o (.tup xs))
theorem Frt.rd {H : Hp} {a : Addr} {xs : List V} (h : Frt H a xs) : Rd H a (.tup xs) := by
  obtain ⟨o, _, h⟩ := h
  exact .inr ⟨o, h⟩
theorem Frt.sq {K : PySem.W.Frag} {H : Hp} {a : Addr} {xs : List V} (h : Frt H a xs) : SqT K H a xs := .inl h.rd
theorem Frt.same {H H' : Hp} {a : Addr} {xs : List V} (h : Frt H a xs) (s : Same H H') : Frt H' a xs := by
  obtain ⟨o, h1, h⟩ := h
  exact ⟨o, h1, s _ _ h⟩
theorem Frt.step {H H' : Hp} {a p c : Addr} {xs : List V} (h : Frt H a xs) (hp : PenAt H p c) (s : PenStep p c H H') : Frt H' a xs := by
  obtain ⟨o, h1, h⟩ := h
  exact ⟨o, h1, s.at hp h rfl⟩
theorem Frt.put {H : Hp} {a b C dx : Addr} {fs : List (Str × V)} {xs : List V} {u : HO} (h : Frt H a xs) (e : H b = some (.ins C dx fs)) : Frt (upd H b u) a xs := by
  obtain ⟨o, h1, h⟩ := h
  exact ⟨o, h1, (upd_ne (ne_of h e (by intro z; cases z))).trans h⟩
section
variable {X : Cx}
end
end Wm
namespace Wm
open PySem L2 PySem.Spec PySem.W PySem.SeqAt
open PyProof.Rows hiding St
def SqB (K : PySem.W.Frag) (H : Hp) (a : Addr) (xs : List V) : Prop := H a = some (.lst xs) ∨ SqT K H a xs
theorem SqB.same {K : PySem.W.Frag} {H H' : Hp} {a : Addr} {xs : List V} (h : SqB K H a xs) (s : Same H H') : SqB K H' a xs := h.imp (fun h => s _ _ h) (fun h => same_seqT s h)
theorem SqB.ty {K : PySem.W.Frag} {H : Hp} {a : Addr} {xs : List V} (h : SqB K H a xs) : ∃ t, TyX K H (.ref a) (.type t) ∧ (t = "list" ∨ t = "tuple") := by
  rcases h with h | (h | ⟨o, h⟩) | ⟨o, its, n, h, c, _⟩
  · exact ⟨_, .base (.lst h), .inl rfl⟩
  · exact ⟨_, .base (.tup h), .inr rfl⟩
  · exact ⟨_, .fTuple h, .inr rfl⟩
  · exact ⟨_, .kTuple h c, .inr rfl⟩
def GRowAt (C : Addr) (H : Hp) (x : Str × G5) (v : V) : Prop := ∃ t gv, v = .ref t ∧ H t = some (.tup [.str x.1, gv]) ∧ GuAt C H x.2 gv
theorem GRowAt.same {C : Addr} {H H' : Hp} {x : Str × G5} {v : V} (h : GRowAt C H x v) (s : Same H H') : GRowAt C H' x v := by
  obtain ⟨t, gv, rfl, e, g⟩ := h
  exact ⟨t, gv, rfl, s _ _ e, g.same s⟩
def wfs (S : Addr) (st : Str) (gt ot nt : Addr) (lim : V) (fr : Bool) : List (Str × V) := [("schema", .ref S), ("start", .str st), ("guards", .ref gt), ("out", .ref ot), ("anew", .ref nt), ("limit", lim), ("frees", .bl fr)]
structure WkrIn (CW CG : Addr) (H : Hp) (S : Addr) (w : Wk) (a dx gt ot nt : Addr) (gvs ovs nvs : List V) : Prop where
  at_ : H a = some (.ins CW dx (wfs S w.start gt ot nt (limV w.lim) w.frees))
  gat : Frt H gt gvs
  g : All2 (GRowAt CG H) w.gs gvs
  oat : H ot = some (.tup ovs)
  o : All2 (PairAt H) w.out ovs
  nat : H nt = some (.tup nvs)
  n : All2 (PairAt H) w.anew nvs
def WkrAt (CW CG : Addr) (H : Hp) (S : Addr) (w : Wk) (a : Addr) : Prop := ∃ dx gt ot nt gvs ovs nvs, WkrIn CW CG H S w a dx gt ot nt gvs ovs nvs
theorem WkrAt.same {CW CG S a : Addr} {H H' : Hp} {w : Wk} (h : WkrAt CW CG H S w a) (s : Same H H') : WkrAt CW CG H' S w a := by
  obtain ⟨dx, gt, ot, nt, gvs, ovs, nvs, i⟩ := h
  have t := tx_same s
  exact ⟨dx, gt, ot, nt, gvs, ovs, nvs, s _ _ i.at_, i.gat.same s, i.g.mono (fun _ _ z => z.same s), s _ _ i.oat, all2_pairs i.o t, s _ _ i.nat, all2_pairs i.n t⟩
theorem GuAt.step {C p c : Addr} {H H' : Hp} {g : G5} {v : V} (h : GuAt C H g v) (hp : PenAt H p c) (s : PenStep p c H H') : GuAt C H' g v := by
  obtain ⟨a, dx, rfl, e⟩ := h
  exact ⟨a, dx, rfl, s.at hp e rfl⟩
theorem WkrAt.step {CW CG S a p c : Addr} {H H' : Hp} {w : Wk} (h : WkrAt CW CG H S w a) (hp : PenAt H p c) (s : PenStep p c H H') : WkrAt CW CG H' S w a := by
  obtain ⟨dx, gt, ot, nt, gvs, ovs, nvs, i⟩ := h
  have t := tx_step hp s
  exact ⟨dx, gt, ot, nt, gvs, ovs, nvs, s.at hp i.at_ rfl, i.gat.step hp s, i.g.mono (fun _ _ ⟨q, gv, e1, e2, e3⟩ => ⟨q, gv, e1, t _ _ e2, e3.step hp s⟩), t _ _ i.oat, all2_pairs i.o t, t _ _ i.nat, all2_pairs i.n t⟩
def ownsF (rows : List Row) (o f : Str) : Bool := decide (o ∈ names rows) && decide (f ∈ (ownOf rows o).map (·.1))
def pkvs (st g o n lim : V) (fr : Bool) : List (Key × V) := [(.inr "start", st), (.inr "guards", g), (.inr "out", o), (.inr "anew", n), (.inr "limit", lim), (.inr "frees", .bl fr)]
section
variable (st g o n l : V) (f : Bool)
theorem pk_get_start : valV (pkvs st g o n l f) (.inr "start") = some st := rfl
theorem pk_get_guards : valV (pkvs st g o n l f) (.inr "guards") = some g := rfl
theorem pk_get_out : valV (pkvs st g o n l f) (.inr "out") = some o := rfl
theorem pk_get_anew : valV (pkvs st g o n l f) (.inr "anew") = some n := rfl
theorem pk_get_limit : valV (pkvs st g o n l f) (.inr "limit") = some l := rfl
theorem pk_get_frees : valV (pkvs st g o n l f) (.inr "frees") = some (.bl f) := rfl
end
structure PartsIn (K : PySem.W.Frag) (CG : Addr) (H : Hp) (rows : List Row) (w : Wk) (ga oa na : Addr) (gxs oxs nxs : List V) : Prop where
  gat : SqB K H ga gxs
  g : All2 (GRowAt CG H) w.gs gxs
  oat : SqB K H oa oxs
  o : All2 (PairAt H) w.out oxs
  nat : SqB K H na nxs
  n : All2 (PairAt H) w.anew nxs
  st : w.start ∈ names rows
  un : underF rows w.start ≠ []
  gn : ∀ x, x ∈ w.gs → x.1 ∈ names rows
  gnd : (w.gs.map (·.1)).Nodup
  on : ∀ x, x ∈ w.out → x ∈ ownPairs rows
  ond : w.out.Nodup
  nn : ∀ x, x ∈ w.anew → x ∈ ownPairs rows
  nnd : w.anew.Nodup
  dis : ∀ x, x ∈ w.anew → x ∉ w.out
  lim : ∀ m, w.lim = some m → m ≤ 20
end Wm
namespace Wm
open PySem L2 PySem.Spec PySem.W PySem.SeqAt
open PyProof.Rows hiding St
theorem r_iA {K : PySem.W.Frag} {p : Addr} {xs : List V} {σ : St} {H : Hp} {sl : Nat} {R : It → Hp → Prop} (hv : σ[sl]? = some (some (.ref p))) (hS : SqA K H p xs)
    (h : ∀ (J : It) (G : Hp → Prop), Walk J xs.length G (YAt xs) → (∀ H', Same H H' → G H') → R J H) : iOr (iList K (tVar sl)) (iTup K (tVar sl)) σ H R := by
  rcases hS with hS | hS
  · exact .inl ⟨_, hv, p, rfl, ⟨xs, hS⟩, h _ _ walk_list fun H' s => s.seq hS⟩
  · exact .inr ⟨_, hv, p, rfl, ⟨xs, hS⟩, h _ _ walk_tup fun H' s => same_seqT s hS⟩
theorem dc_walk {J : It} {n : Nat} {G : Hp → Prop} {Y : Nat → Hp → V → Hp → Prop} (w : Walk J n G Y) {g : TG} {tt : TT} {tk tv : TE} {vs : List Nat} {σ : St} {H1 : Hp} {D : Addr} {Qd : Hp → Prop} (Pv : Nat → Hp → Prop) (h0 : Pv 0 (upd H1 D (.dK []))) (hl : ∀ i H, i ≤ n → Pv i H → G H)
    (hs : ∀ i x H H', i < n → Pv i H → Y i H x H' → g x (wipe σ vs) H' fun σ2 H2 => wipe σ2 vs = wipe σ vs ∧ tt σ2 H2 fun b H3 =>
      if b = true then tk σ2 H3 fun y H4 => tv σ2 H4 fun z H5 => ∃ kvs k, y = kV k ∧ H5 D = some (.dK kvs) ∧ kvs.length < sizeLine ∧ Pv (i + 1) (upd H5 D (.dK (putK kvs k z))) else Pv (i + 1) H3) (hd : ∀ H, Pv n H → Qd H) :
    ∃ W : Nat → Nat → Hp → Prop, (∃ m, W 0 m (upd H1 D (.dK []))) ∧ ∀ i m H, W i m H →
      (J.stop i H ∧ Qd H) ∨ (J.go i H ∧ ∃ Nx : Hp → Prop, (∀ H', Nx H' → ∃ m', m' < m ∧ W (i + 1) m' H') ∧ ∀ x H', J.yld i H x H' → g x (wipe σ vs) H' fun σ2 H2 => wipe σ2 vs = wipe σ vs ∧ tt σ2 H2 fun b H3 =>
        if b = true then tk σ2 H3 fun y H4 => tv σ2 H4 fun z H5 => ∃ kvs k, y = kV k ∧ H5 D = some (.dK kvs) ∧ kvs.length < sizeLine ∧ Nx (upd H5 D (.dK (putK kvs k z))) else Nx H3) := by
  refine ⟨fun i m H => m = n - i ∧ i ≤ n ∧ Pv i H, ⟨n, by simp, Nat.zero_le _, h0⟩, ?_⟩
  rintro i m H ⟨rfl, hi, p⟩
  have q := hl i H hi p
  by_cases hlt : i < n
  · exact .inr ⟨w.goes i H hlt q, Pv (i + 1), fun H' p' => ⟨n - (i + 1), by omega, rfl, hlt, p'⟩, fun x H' y => hs i x H H' hlt p (w.yields i H x H' hlt q y)⟩
  · have e : i = n := by omega
    subst e
    exact .inl ⟨w.stops H q, hd H p⟩
def dcEnd (g : TG) (tt : TT) (tk tv : TE) (vs : List Nat) (σ : St) (Q : VK) : It → Hp → Prop := fun J H1 => ∀ D, H1 D = none → ∃ W : Nat → Nat → Hp → Prop, (∃ m, W 0 m (upd H1 D (.dK []))) ∧ ∀ i m H, W i m H →
  (J.stop i H ∧ Q (.ref D) H) ∨ (J.go i H ∧ ∃ Nx : Hp → Prop, (∀ H', Nx H' → ∃ m', m' < m ∧ W (i + 1) m' H') ∧ ∀ x H', J.yld i H x H' → g x (wipe σ vs) H' fun σ2 H2 => wipe σ2 vs = wipe σ vs ∧ tt σ2 H2 fun b H3 =>
    if b = true then tk σ2 H3 fun y H4 => tv σ2 H4 fun z H5 => ∃ kvs k, y = kV k ∧ H5 D = some (.dK kvs) ∧ kvs.length < sizeLine ∧ Nx (upd H5 D (.dK (putK kvs k z))) else Nx H3)
theorem r_dc {wi : TI} {g : TG} {tt : TT} {tk tv : TE} {vs : List Nat} {σ : St} {H : Hp} {Q : VK} (h : wi σ H (dcEnd g tt tk tv vs σ Q)) : tDc wi g tt tk tv vs σ H Q := h
theorem r_dcW {α : Type} {J : It} {n : Nat} {G : Hp → Prop} {Y : Nat → Hp → V → Hp → Prop} {g : TG} {tt : TT} {tk tv : TE} {vs : List Nat} {σ : St} {H : Hp} {Q : VK} (w : Walk J n G Y) (items : List α) (hn : items.length = n) (key : α → Str) (Rl : α → V → Hp → Prop) (nd : (items.map key).Nodup)
    (hst : ∀ a y G G', Rl a y G → (∀ b o, G b = some o → G' b = some o) → Rl a y G') (hG : ∀ H', Same H H' → G H') (hz : n ≤ sizeLine)
    (ht : ∀ (D : Addr) (i : Nat) (a : α) (x : V) (Hi Hj : Hp) (kvs : List (Key × V)) (N : V → V → Hp → Prop) (Kf : Hp → Prop), H D = none → items[i]? = some a → Same H Hi → Hi D = some (.dK kvs) → Y i Hi x Hj → (∀ z H'', Same Hi H'' → Rl a z (hid D H'') → N (.str (key a)) z H'') →
      g x (wipe σ vs) Hj fun σ2 H2 => wipe σ2 vs = wipe σ vs ∧ tt σ2 H2 fun b H3 => if b = true then tk σ2 H3 fun y H4 => tv σ2 H4 fun z H5 => N y z H5 else Kf H3)
    (k : ∀ q kvs H', H q = none → Same H H' → H' q = some (.dK kvs) → All2 (fun a kv => kv.1 = .inr (key a) ∧ Rl a kv.2 H') items kvs → Q (.ref q) H') : dcEnd g tt tk tv vs σ Q J H := by
  subst hn
  intro D hD
  refine dc_walk w (fun j H' => Same H H' ∧ ∃ kvs, H' D = some (.dK kvs) ∧ All2 (fun a kv => kv.1 = Sum.inr (key a) ∧ Rl a kv.2 (hid D H')) (items.take j) kvs) ⟨same_new hD, [], upd_same, .nil⟩ (fun i H' _ z => hG H' z.1) (fun i x Hi Hj hi z y => ?_) (fun H' z => ?_)
  · obtain ⟨s, kvs, e, hr⟩ := z
    have ha : items[i]? = some items[i] := by simp [hi]
    refine ht D i items[i] x Hi Hj kvs (fun y z H5 => ∃ kvs k, y = kV k ∧ H5 D = some (.dK kvs) ∧ kvs.length < sizeLine ∧ (Same H (upd H5 D (.dK (putK kvs k z))) ∧ ∃ kvs', (upd H5 D (.dK (putK kvs k z))) D = some (.dK kvs') ∧ All2 (fun a kv => kv.1 = Sum.inr (key a) ∧ Rl a kv.2 (hid D (upd H5 D (.dK (putK kvs k z))))) (items.take (i + 1)) kvs')) _ hD ha s e y (fun z H'' s2 hz2 => ?_)
    · have e2 := s2 _ _ e
      have hkeys : ∀ {l : List α} {m : List (Key × V)}, All2 (fun a kv => kv.1 = Sum.inr (key a) ∧ Rl a kv.2 (hid D Hi)) l m → m.map (·.1) = l.map fun a => Sum.inr (key a) := by
        intro l m h
        induction h with
        | nil => rfl
        | cons a _ ih =>
          simp only [List.map_cons, ih]
          rw [a.1]
      have hnew : valV kvs (.inr (key items[i])) = none := valV_none (by
        rw [hkeys hr]
        intro q
        obtain ⟨b, hb, eb⟩ := List.mem_map.mp q
        have e3 : (items.map key).take i ++ (items.map key).drop i = items.map key := List.take_append_drop _ _
        rw [← e3, List.nodup_append] at nd
        have h1 : key b ∈ (items.map key).take i := by
          rw [← List.map_take]
          exact List.mem_map_of_mem hb
        have h2 : key items[i] ∈ (items.map key).drop i := by
          rw [← List.map_drop]
          refine List.mem_map_of_mem ?_
          rw [List.drop_eq_getElem_cons hi]
          exact List.mem_cons_self
        exact nd.2.2 _ h1 _ h2 (Sum.inr.inj eb))
      have hl := hr.len
      rw [List.length_take] at hl
      have up : ∀ (o : HO), ∀ b u, hid D H'' b = some u → hid D (upd H'' D o) b = some u := fun o b u q => by
        obtain ⟨n, q⟩ := hid_get q
        exact hid_at n ((upd_ne n).trans q)
      refine ⟨kvs, .inr (key items[i]), rfl, e2, by omega, same_put (s.trans s2) hD, _, upd_same, ?_⟩
      rw [putK_new _ hnew, take_more ha]
      refine All2.snoc (a := items[i]) (b := ((.inr (key items[i]), z) : Key × V)) (R := fun a (kv : Key × V) => kv.1 = Sum.inr (key a) ∧ Rl a kv.2 (hid D (upd H'' D (.dK (kvs ++ [(.inr (key items[i]), z)]))))) ⟨rfl, hst (items[i]) z _ _ hz2 (up _)⟩ (hr.mono fun a b q => ⟨q.1, hst _ _ _ _ q.2 fun b' o q' => up _ b' o (by
        obtain ⟨n, q'⟩ := hid_get q'
        exact hid_at n (s2 _ _ q'))⟩)
  · obtain ⟨s, kvs, e, hr⟩ := z
    rw [List.take_length] at hr
    exact k D kvs H' hD s e (hr.mono fun a b z => ⟨z.1, hst _ _ _ _ z.2 fun b o z => (hid_get z).2⟩)
theorem owns_pair {rows : List Row} {x : Str × Str} (hok : SchOk rows) (h : x ∈ ownPairs rows) : ownsF rows x.1 x.2 = true ∧ x.1.length ≤ sizeLine ∧ x.2.length ≤ sizeLine := by
  unfold ownPairs at h
  obtain ⟨r, hr, h⟩ := List.mem_flatMap.mp h
  obtain ⟨f, hf, rfl⟩ := List.mem_map.mp h
  have hn : r.name ∈ names rows := List.mem_map_of_mem hr
  have l1 := kindName_len (hok.ok.kn hn)
  have l2 := fieldName_len (((hok.sm hr).form.2.2 f hf).1)
  refine ⟨?_, by rw [PySem.sizeLine_eq]; show r.name.length ≤ _; omega, by rw [PySem.sizeLine_eq]; show f.1.length ≤ _; omega⟩
  unfold ownsF
  rw [Bool.and_eq_true, decide_eq_true_eq, decide_eq_true_eq, own_of hok.ok.nd hr]
  exact ⟨hn, List.mem_map_of_mem hf⟩
theorem own_pairs_nd {all : List Str} {rows : List Row} (ok : RowsOk all rows) : (ownPairs rows).Nodup := by
  have key : ∀ m, m ≤ rows.length → (ownPairs (rows.take m)).Nodup := by
    intro m
    induction m with
    | zero => intro _; exact List.Pairwise.nil
    | succ m ih =>
      intro hm
      have hlt : m < rows.length := hm
      have e : rows[m]? = some rows[m] := List.getElem?_eq_getElem hlt
      rw [take_more e, own_pairs_snoc, List.nodup_append]
      refine ⟨ih (by omega), ?_, fun x hx y hy z => ?_⟩
      · have := ok.own_nd (List.mem_of_getElem? e)
        have h2 := nd_map_on (f := fun n : Str => ((rows[m].name, n) : Str × Str)) (fun a b h => (Prod.mk.inj h).2) this
        rwa [List.map_map] at h2
      · subst z
        obtain ⟨f, hf, rfl⟩ := List.mem_map.mp hy
        exact (ok m _ e).fresh (own_pairs_mem hx)
  have := key rows.length (Nat.le_refl _)
  rwa [List.take_length] at this
end Wm
namespace Wm
open PySem L2 PySem.Spec PySem.W PySem.SeqAt
open PyProof.Rows hiding St
section
variable {H H' : Hp} {a C dx : Addr}
theorem ne_fresh {b : Addr} {o : HO} (e : H a = some (.ins C dx [])) (h : H b = some o) (n : o ≠ .ins C dx []) : b ≠ a := fun z => by
  rw [z, e] at h
  exact n (Option.some.inj h).symm
theorem But.txI (e : H a = some (.ins C dx [])) (s : But a H H') : Tx H H' := fun b xs h => s b _ (ne_fresh e h (by intro z; cases z)) h
theorem SchAt.butI {CK CS S : Addr} {rows : List Row} (h : SchAt CK CS H rows S) (e : H a = some (.ins C dx [])) (s : But a H H') : SchAt CK CS H' rows S := by
  obtain ⟨dx', rv, nv, dv, rvs, kvs, i⟩ := h
  have t := s.txI e
  exact ⟨dx', rv, nv, dv, rvs, kvs, s _ _ (ne_fresh e i.at_ (by intro z; unfold sfs at z; cases z)) i.at_, t _ _ i.rws, all2_rows i.rall t, t _ _ i.nms, i.kn.butI e s⟩
theorem SqB.butI {K : PySem.W.Frag} {b : Addr} {xs : List V} (h : SqB K H b xs) (e : H a = some (.ins C dx [])) (s : But a H H') : SqB K H' b xs := by
  rcases h with h | (h | ⟨o, h⟩) | h
  · exact .inl (s _ _ (ne_fresh e h (by intro z; cases z)) h)
  · exact .inr (.inl (.inl (s _ _ (ne_fresh e h (by intro z; cases z)) h)))
  · exact .inr (.inl (.inr ⟨o, s _ _ (ne_fresh e h (by intro z; cases z)) h⟩))
  · exact .inr (.inr h)
theorem GRowAt.butI {CG : Addr} {x : Str × G5} {v : V} (h : GRowAt CG H x v) (e : H a = some (.ins C dx [])) (s : But a H H') : GRowAt CG H' x v := by
  obtain ⟨t, gv, rfl, e1, ga, gdx, rfl, e2⟩ := h
  exact ⟨t, _, rfl, s.txI e _ _ e1, ga, gdx, rfl, s _ _ (ne_fresh e e2 (by intro z; unfold gfs at z; cases z)) e2⟩
theorem PartsIn.butI {K : PySem.W.Frag} {CG : Addr} {rows : List Row} {w : Wk} {ga oa na : Addr} {gxs oxs nxs : List V} (h : PartsIn K CG H rows w ga oa na gxs oxs nxs) (e : H a = some (.ins C dx [])) (s : But a H H') : PartsIn K CG H' rows w ga oa na gxs oxs nxs := by
  have t := s.txI e
  exact { h with gat := h.gat.butI e s, g := h.g.mono (fun _ _ z => z.butI e s), oat := h.oat.butI e s, o := all2_pairs h.o t, nat := h.nat.butI e s, n := all2_pairs h.n t }
theorem PartsIn.same {K : PySem.W.Frag} {CG : Addr} {rows : List Row} {w : Wk} {ga oa na : Addr} {gxs oxs nxs : List V} (h : PartsIn K CG H rows w ga oa na gxs oxs nxs) (s : Same H H') : PartsIn K CG H' rows w ga oa na gxs oxs nxs := by
  have t := tx_same s
  exact { h with gat := h.gat.same s, g := h.g.mono (fun _ _ z => z.same s), oat := h.oat.same s, o := all2_pairs h.o t, nat := h.nat.same s, n := all2_pairs h.n t }
end
end Wm
namespace Wm
open PySem L2 PySem.Spec PySem.W PySem.SeqAt
open PyProof.Rows hiding St
theorem WkOk.parts {K : PySem.W.Frag} {CG : Addr} {H : Hp} {rows : List Row} {w : Wk} {ga oa na : Addr} {gxs oxs nxs : List V} (hok : SchOk rows) (h : WkOk rows w) (g1 : SqB K H ga gxs) (g2 : All2 (GRowAt CG H) w.gs gxs) (o1 : SqB K H oa oxs) (o2 : All2 (PairAt H) w.out oxs) (n1 : SqB K H na nxs) (n2 : All2 (PairAt H) w.anew nxs) : PartsIn K CG H rows w ga oa na gxs oxs nxs where
  gat := g1
  g := g2
  oat := o1
  o := o2
  nat := n1
  n := n2
  st := h.st
  un := h.un
  gn := fun x hx => h.gs.subset (List.mem_map_of_mem hx)
  gnd := h.gs.nodup hok.ok.nd
  on := fun x hx => h.out.subset hx
  ond := h.out.nodup (own_pairs_nd hok.ok)
  nn := fun x hx => h.anew.subset hx
  nnd := h.anew.nodup (own_pairs_nd hok.ok)
  dis := fun x hx hy => h.dis x hy hx
  lim := h.lim
theorem r_lockS {t : TS} {d : Addr} {kvs : List (Key × V)} {D : Ends} {σ : St} {H : Hp} (h : H d = some (.dK kvs))
    (k : ∀ od, t ⟨fun σ' H' => H' d = some (.frz od (.dK kvs)) ∧ D.nx σ' (upd H' d (.dK kvs)), fun v H' => H' d = some (.frz od (.dK kvs)) ∧ D.rt v (upd H' d (.dK kvs)), fun σ' H' => H' d = some (.frz od (.dK kvs)) ∧ D.bk σ' (upd H' d (.dK kvs)), fun σ' H' => H' d = some (.frz od (.dK kvs)) ∧ D.ct σ' (upd H' d (.dK kvs))⟩ σ (upd H d (.frz od (.dK kvs)))) : tLock t D σ H := ⟨d, .dK kvs, h, trivial, k⟩
theorem r_iItems {td : TE} {σ : St} {H : Hp} {R : It → Hp → Prop} (h : td σ H fun x H1 => ∃ d o kvs, x = .ref d ∧ H1 d = some (.frz o (.dK kvs)) ∧ R (Iti d o kvs) H1) : iItems td σ H R := h
def guardOf5 (rows : List Row) (w : Wk) (n : Str) : G5 := match (lineF rows n).findSome? fun o => w.gs.find? fun x => x.1 == o with
  | some x => x.2
  | none => noG
end Wm
namespace Wm
open PySem L2 PySem.Spec PySem.W PySem.SeqAt
open PyProof.Rows hiding St
abbrev Stp := Str × Str × Bool × Str
def StpAt (H : Hp) (x : Stp) (v : V) : Prop := ∃ t, v = .ref t ∧ H t = some (.tup [.str x.1, .str x.2.1, .bl x.2.2.1, .str x.2.2.2])
theorem StpAt.tx {H H' : Hp} {x : Stp} {v : V} (h : StpAt H x v) (t : Tx H H') : StpAt H' x v := by
  obtain ⟨a, rfl, e⟩ := h
  exact ⟨a, rfl, t _ _ e⟩
def StpsAt (H : Hp) (q : Addr) (l : List Stp) : Prop := ∃ vs, H q = some (.lst vs) ∧ All2 (StpAt H) l vs
theorem all2_stp {H H' : Hp} {l : List Stp} {vs : List V} (h : All2 (StpAt H) l vs) (t : Tx H H') : All2 (StpAt H') l vs := h.mono fun _ _ z => z.tx t
theorem StpsAt.same {H H' : Hp} {q : Addr} {l : List Stp} (h : StpsAt H q l) (s : Same H H') : StpsAt H' q l := by
  obtain ⟨vs, e, h⟩ := h
  exact ⟨vs, s _ _ e, all2_stp h (tx_same s)⟩
def sh1 (w : Wk) (f : Fld4) : Option Stp := if (f.2.2.2, f.1) ∈ w.out then none else some (f.1, f.2.1, decide ((f.2.2.2, f.1) ∈ w.anew), f.2.2.1)
def shownF (rows : List Row) (w : Wk) (k : Str) : List Stp := (fieldsF rows k).filterMap (sh1 w)
def st1 (rows : List Row) (x : Stp) : List Stp := (underF rows x.2.2.2).map fun g => (x.1, x.2.1, x.2.2.1, g)
def stepsF (rows : List Row) (w : Wk) (k : Str) : List Stp := (shownF rows w k).flatMap (st1 rows)
def goalF (rows : List Row) (w : Wk) (k : Str) : List Str := (stepsF rows w k).map (·.2.2.2)
def newF (f b : List Str) (x : Str) : List Str := if x ∈ f ∨ x ∈ b then b else b ++ [x]
def belowF (rows : List Row) (w : Wk) (f l : List Str) : List Str := (l.flatMap (goalF rows w)).foldl (newF f) []
def reachL (rows : List Row) (w : Wk) : Nat → List Str → List Str → List Str
  | 0, f, _ => f
  | n + 1, f, l => reachL rows w n (f ++ belowF rows w f l) (belowF rows w f l)
def capW (w : Wk) : Nat := match w.lim with
  | none => 7
  | some m => min m 7
theorem fields_tgt {all : List Str} {rows : List Row} (ok : RowsOk all rows) {n : Str} {f : Fld4} (h : f ∈ fieldsF rows n) : f.2.2.1 ∈ all := by
  unfold fieldsF at h
  rw [List.mem_flatMap] at h
  obtain ⟨o, _, h⟩ := h
  rw [List.mem_map] at h
  obtain ⟨g, hg, rfl⟩ := h
  unfold ownOf at hg
  cases hf : rows.find? (fun r => r.name == o) with
  | none =>
    rw [hf] at hg
    cases hg
  | some x =>
    rw [hf] at hg
    obtain ⟨k, hk⟩ := List.mem_iff_getElem?.mp (List.mem_of_find?_eq_some hf)
    exact ((ok k x hk).own g hg).2.2
theorem under_conc {rows : List Row} {n x : Str} (h : x ∈ underF rows n) : x ∈ concF rows := (List.mem_filter.mp h).1
theorem under_nd {rows : List Row} (nd : (names rows).Nodup) (n : Str) : (underF rows n).Nodup := by
  unfold underF concF
  exact List.filter_sublist.nodup (((List.filter_sublist (l := rows)).map _).nodup nd)
theorem goal_conc {rows : List Row} {w : Wk} {k x : Str} (h : x ∈ goalF rows w k) : x ∈ concF rows := by
  unfold goalF stepsF at h
  rw [List.mem_map] at h
  obtain ⟨s, h, rfl⟩ := h
  rw [List.mem_flatMap] at h
  obtain ⟨y, _, h⟩ := h
  unfold st1 at h
  rw [List.mem_map] at h
  obtain ⟨g, hg, rfl⟩ := h
  exact under_conc hg
structure NwOk (C f b : List Str) : Prop where
  nd : (f ++ b).Nodup
  sub : ∀ x, x ∈ f ++ b → x ∈ C
theorem NwOk.new {C f b : List Str} {x : Str} (h : NwOk C f b) (hx : x ∈ C) : NwOk C f (newF f b x) := by
  unfold newF
  split
  · exact h
  · rename_i n
    refine ⟨?_, fun y hy => ?_⟩
    · rw [← List.append_assoc, List.nodup_append]
      refine ⟨h.nd, by simp, fun a ha c hc z => ?_⟩
      rw [List.mem_singleton] at hc
      subst hc
      subst z
      exact n (List.mem_append.mp ha)
    · rw [← List.append_assoc, List.mem_append] at hy
      rcases hy with hy | hy
      · exact h.sub y hy
      · rw [List.mem_singleton] at hy
        rw [hy]
        exact hx
theorem NwOk.fold {C f : List Str} : ∀ {gs b : List Str}, NwOk C f b → (∀ x, x ∈ gs → x ∈ C) → NwOk C f (gs.foldl (newF f) b)
  | [], _, h, _ => h
  | g :: gs, b, h, hg => (h.new (hg g (by simp))).fold fun x hx => hg x (by simp [hx])
theorem below_ok {rows : List Row} {w : Wk} {f l : List Str} (h : f.Nodup) (hf : ∀ x, x ∈ f → x ∈ concF rows) : NwOk (concF rows) f (belowF rows w f l) :=
  NwOk.fold ⟨by simpa using h, by simpa using hf⟩ fun x hx => by
    obtain ⟨k, _, h⟩ := List.mem_flatMap.mp hx
    exact goal_conc h
theorem reach_nil {rows : List Row} {w : Wk} : ∀ (n : Nat) (f : List Str), reachL rows w n f [] = f
  | 0, _ => rfl
  | n + 1, f => by
    show reachL rows w n (f ++ []) [] = f
    rw [List.append_nil, reach_nil n f]
theorem conc_len {rows : List Row} (ok : SchOk rows) {f : List Str} (nd : f.Nodup) (h : ∀ x, x ∈ f → x ∈ concF rows) : f.length ≤ 6 := by
  have h1 := nd_len nd h
  have h2 : (concF rows).length ≤ rows.length := by
    unfold concF
    rw [List.length_map]
    exact List.length_filter_le _ _
  have h3 := ok.few
  omega
structure LvOk (rows : List Row) (w : Wk) (n : Nat) (f l : List Str) : Prop where
  nd : f.Nodup
  sub : ∀ x, x ∈ f → x ∈ concF rows
  lsub : ∀ x, x ∈ l → x ∈ concF rows
  lv : l ≠ [] → n + 1 ≤ f.length
  res : reachL rows w (capW w - n) f l = reachL rows w (capW w) (underF rows w.start) (underF rows w.start)
theorem LvOk.init {rows : List Row} (ok : SchOk rows) (w : Wk) : LvOk rows w 0 (underF rows w.start) (underF rows w.start) where
  nd := under_nd ok.ok.nd _
  sub := fun x h => under_conc h
  lsub := fun x h => under_conc h
  lv := fun h => by
    cases e : underF rows w.start with
    | nil => exact absurd e h
    | cons a l => simp
  res := rfl
theorem LvOk.next {rows : List Row} (ok : SchOk rows) {w : Wk} {n : Nat} {f l : List Str} (h : LvOk rows w n f l) (hl : l ≠ []) (hc : ∀ m, w.lim = some m → n < m) : LvOk rows w (n + 1) (f ++ belowF rows w f l) (belowF rows w f l) where
  nd := (below_ok h.nd h.sub).nd
  sub := (below_ok h.nd h.sub).sub
  lsub := fun x hx => (below_ok (w := w) (l := l) h.nd h.sub).sub x (by simp [hx])
  lv := fun hb => by
    have := h.lv hl
    rw [List.length_append]
    have := List.length_pos_iff.mpr hb
    omega
  res := by
    have h1 := h.lv hl
    have h2 := conc_len ok h.nd h.sub
    have h3 : capW w - n = (capW w - (n + 1)) + 1 := by
      unfold capW
      cases e : w.lim with
      | none => simp only; omega
      | some m =>
        have := hc m e
        simp only
        omega
    rw [← h.res, h3]
    rfl
theorem LvOk.done {rows : List Row} {w : Wk} {n : Nat} {f l : List Str} (h : LvOk rows w n f l) (e : l = [] ∨ ∃ m, w.lim = some m ∧ m ≤ n) : f = reachL rows w (capW w) (underF rows w.start) (underF rows w.start) := by
  rcases e with rfl | ⟨m, e, hm⟩
  · rw [← h.res, reach_nil]
  · have h3 : capW w - n = 0 := by
      unfold capW
      rw [e]
      simp only
      omega
    rw [← h.res, h3]
    rfl
end Wm
namespace Wm
open PySem L2 PySem.Spec PySem.W PySem.SeqAt
open PyProof.Rows hiding St
end Wm
namespace Wm
open PySem L2 PySem.Spec PySem.W PySem.SeqAt
open PyProof.Rows hiding St
end Wm
namespace Wm
open PySem L2 PySem.Spec PySem.W PySem.SeqAt
open PyProof.Rows hiding St
end Wm
namespace Wm
open PySem L2 PySem.Spec PySem.W PySem.SeqAt
open PyProof.Rows hiding St
theorem WkrAt.butL {CW CG S a D : Addr} {H H' : Hp} {w : Wk} {xs : List V} (h : WkrAt CW CG H S w a) (e : H D = some (.lst xs)) (s : But D H H') : WkrAt CW CG H' S w a := by
  obtain ⟨dx, gt, ot, nt, gvs, ovs, nvs, i⟩ := h
  have k : ∀ {b : Addr} {o : HO}, H b = some o → (∀ ys, o ≠ .lst ys) → H' b = some o := fun hb n => s _ _ (fun z => by
    rw [z, e] at hb
    cases hb
    exact n _ rfl) hb
  have t : Tx H H' := fun b ys hb => k hb (fun _ z => by cases z)
  obtain ⟨og, h1, h2⟩ := i.gat
  refine ⟨dx, gt, ot, nt, gvs, ovs, nvs, k i.at_ (fun _ z => by cases z), ⟨og, h1, k h2 (fun _ z => by cases z)⟩, i.g.mono (fun _ _ z => ?_), t _ _ i.oat, all2_pairs i.o t, t _ _ i.nat, all2_pairs i.n t⟩
  obtain ⟨q, gv, e1, e2, ga, gdx, e3, e4⟩ := z
  exact ⟨q, gv, e1, t _ _ e2, ga, gdx, e3, k e4 (fun _ z => by cases z)⟩
theorem WkrAt.hid {CW CG S a D : Addr} {H : Hp} {w : Wk} {xs : List V} (h : WkrAt CW CG H S w a) (e : H D = some (.lst xs)) : WkrAt CW CG (hid D H) S w a :=
  h.butL e fun _ _ n hb => hid_at n hb
end Wm
namespace Wm
open PySem L2 PySem.Spec PySem.W PySem.SeqAt
open PyProof.Rows hiding St
def OddK (rows : List Row) (H : Hp) (v : V) : Prop := (∃ x, v = .str x ∧ x.length ≤ 100 ∧ x ∉ names rows) ∨ v = .non ∨ (∃ b, v = .bl b) ∨ (∃ i, v = .int i) ∨ ∃ q n, v = .ref q ∧ H q = some (.lst [.str n])
theorem OddK.same {rows : List Row} {H H' : Hp} {v : V} (h : OddK rows H v) (s : Same H H') : OddK rows H' v := by
  rcases h with h | h | h | h | ⟨q, n, rfl, e⟩
  · exact .inl h
  · exact .inr (.inl h)
  · exact .inr (.inr (.inl h))
  · exact .inr (.inr (.inr (.inl h)))
  · exact .inr (.inr (.inr (.inr ⟨q, n, rfl, s _ _ e⟩)))
theorem OddK.kn {rows : List Row} {H : Hp} {v : V} (h : OddK rows H v) : ∃ b, KnV H v b := by
  rcases h with ⟨x, rfl, hl, _⟩ | rfl | ⟨b, rfl⟩ | ⟨i, rfl⟩ | ⟨q, n, rfl, e⟩
  · exact ⟨_, .inl ⟨x, rfl, by rw [PySem.sizeLine_eq]; omega, rfl⟩⟩
  · exact ⟨_, .inr ⟨trivial, fun _ z => (by cases z), rfl⟩⟩
  · exact ⟨_, .inr ⟨trivial, fun _ z => (by cases z), rfl⟩⟩
  · exact ⟨_, .inr ⟨trivial, fun _ z => (by cases z), rfl⟩⟩
  · exact ⟨_, .inr ⟨.inl ⟨_, e⟩, fun _ z => (by cases z), rfl⟩⟩
theorem OddK.bad {rows : List Row} {H : Hp} {v : V} (h : OddK rows H v) : badK rows v := fun m e hm => by
  rcases h with ⟨x, rfl, _, hn⟩ | rfl | ⟨b, rfl⟩ | ⟨i, rfl⟩ | ⟨q, n, rfl, _⟩ <;> cases e
  exact hn hm
theorem OddK.dp {K : PySem.W.Frag} {rows : List Row} {H : Hp} {v : V} (h : OddK rows H v) : ∃ d, Dp K H v d ∧ d.plain = true ∧ d.depth ≤ 60 := by
  rcases h with ⟨x, rfl, _, _⟩ | rfl | ⟨b, rfl⟩ | ⟨i, rfl⟩ | ⟨q, n, rfl, e⟩
  · exact ⟨_, .str x, rfl, by simp [PyData.depth]⟩
  · exact ⟨_, .non, rfl, by simp [PyData.depth]⟩
  · exact ⟨_, .bl b, rfl, by simp [PyData.depth]⟩
  · exact ⟨_, .int i, rfl, by simp [PyData.depth]⟩
  · exact ⟨_, .lst (.of e) (.cons (.str n) .nil), rfl, by simp [PyData.depth, PyData.depthAll]⟩
theorem OddK.empty {rows : List Row} {H : Hp} (ok : RowsOk (names rows) rows) : OddK rows H (.str (Str.ofString "")) := by
  refine .inl ⟨_, rfl, by decide, fun hn => ?_⟩
  have := ok.kn hn
  revert this
  decide
end Wm
namespace Wm
open PySem L2 PySem.Spec PySem.W PySem.SeqAt
open PyProof.Rows hiding St
section
variable {M : Model} {prog : Program} {w : World} {A : Around} {E : Value → Shared → Prop} {s : Shared} {K : PySem.W.Frag} {x C f : Addr} {ox : Obj} {od : Option Obj}
end
section
variable {X : Cx} {CX : CXT} {C f : Addr} {fd : FuncData} {ps : List Str} {k : Nat} {sp : Sp} {E : XK}
end
end Wm
namespace Wm
open PySem L2 PySem.Spec PySem.W PySem.SeqAt
open PyProof.Rows hiding St
structure FnC (P : Program) (w : World) (K : PySem.W.Frag) (mg : Str → Option Value) (base : Heap) (CX : CXT) (k : Nat) (f : Addr) (fd : FuncData) (ps : List Str) (sp : Sp) : Prop where
  len : ∀ vs H Q E, sp vs H Q E → vs.length = ps.length
  go : ∀ (A : Around), A.guards = some [] → ∀ (ou : List Env) (s : Shared) (H : Hp) (as : Args) (us : List Value) (vs : List V) (Q : VK) (E : XK), Room k A → Env0 P w K mg base A ou s H → BindsTo s fd as (ps.zip us) → Vals vs us → sp vs H Q E →
    codeAny (model P w) A (.call (.ref f) as) (CR CX ou P w H s Q E) s
section
variable {P : Program} {w : World} {K : PySem.W.Frag} {mg : Str → Option Value} {base : Heap} {CX : CXT}
end
theorem FnC.imp {P : Program} {w : World} {K : PySem.W.Frag} {mg : Str → Option Value} {base : Heap} {CX : CXT} {k : Nat} {f : Addr} {fd : FuncData} {ps : List Str} {sp sp' : Sp} (F : FnC P w K mg base CX k f fd ps sp) (h : ∀ vs H Q E, sp' vs H Q E → sp vs H Q E) : FnC P w K mg base CX k f fd ps sp' :=
  ⟨fun _ _ _ _ q => F.len _ _ _ _ (h _ _ _ _ q), fun A g ou s H as us vs Q E r e b v z => F.go A g ou s H as us vs Q E r e b v (h _ _ _ _ z)⟩
section
variable {X : Cx} {CX : CXT} {k : Nat} {f : Addr} {fd : FuncData} {ps : List Str} {sp : Sp} {E : XK} {x : Str} {p pos : Pos} {e : Expr} {es : List Expr} {t : TA} {ds : List Value} {dvs : List V}
end
end Wm
namespace Wm
open PySem L2 PySem.Spec PySem.W PySem.SeqAt
open PyProof.Rows hiding St
section
variable {X : Cx}
end
def G5Row (H : Hp) (x : Str × G5) (v : V) : Prop := ∃ r t, v = .ref r ∧ H r = some (.tup [.str x.1, .ref t]) ∧ H t = some (.tup (x.2.l.map V.str))
theorem G5Row.hid {H : Hp} {D : Addr} {xs : List V} {x : Str × G5} {v : V} (h : G5Row H x v) (e : H D = some (.lst xs)) : G5Row (hid D H) x v := by
  obtain ⟨r, t, rfl, e1, e2⟩ := h
  exact ⟨r, t, rfl, hid_at (ne_of e1 e (by intro z; cases z)) e1, hid_at (ne_of e2 e (by intro z; cases z)) e2⟩
theorem G5Row.same {H H' : Hp} {x : Str × G5} {v : V} (h : G5Row H x v) (s : Same H H') : G5Row H' x v := by
  obtain ⟨r, t, rfl, e1, e2⟩ := h
  exact ⟨r, t, rfl, s _ _ e1, s _ _ e2⟩
theorem strs_depth : ∀ l : List Str, PyData.depthAll (l.map PyData.str) = 0
  | [] => rfl
  | a :: l => by
    rw [List.map_cons, PyData.depthAll, strs_depth l]
    rfl
def bareW (st : Str) : Wk := { start := st, gs := [], out := [], anew := [], lim := none, frees := true }
theorem GRowAt.step {CG p c : Addr} {H H' : Hp} {x : Str × G5} {v : V} (h : GRowAt CG H x v) (hp : PenAt H p c) (t : PenStep p c H H') : GRowAt CG H' x v := by
  obtain ⟨r, gv, rfl, e1, ga, gdx, rfl, e2⟩ := h
  exact ⟨r, _, rfl, t.at hp e1 rfl, ga, gdx, rfl, t.at hp e2 rfl⟩
def LoT (H : Hp) (D : Addr) : Prop := (∃ xs, H D = some (.lst xs)) ∨ ∃ xs, H D = some (.tup xs)
theorem LoT.clear {H : Hp} {D E : Addr} (h : LoT H D) : LoT (upd H E (.lst [])) D := by
  by_cases e : D = E
  · exact .inl ⟨[], by rw [e]; exact upd_same⟩
  · exact h.imp (fun ⟨xs, z⟩ => ⟨xs, (upd_ne e).trans z⟩) (fun ⟨xs, z⟩ => ⟨xs, (upd_ne e).trans z⟩)
theorem LoT.same {H H' : Hp} {D : Addr} (h : LoT H D) (s : Same H H') : LoT H' D := h.imp (fun ⟨xs, z⟩ => ⟨xs, s _ _ z⟩) (fun ⟨xs, z⟩ => ⟨xs, s _ _ z⟩)
end Wm
namespace Wm
open PySem L2 PySem.Spec PySem.W PySem.SeqAt
open PyProof.Rows hiding St
end Wm
namespace Wm
open PySem PySem.Spec PySem.W PySem.SeqAt
open AutoSeq1 (wpAny_loadPart')
open MeetsSeq MeetsSeq2 MeetsSeq3 SeqRoads2
def EqKeep (prog : Program) (w : World) (A : Around) (P : Shared → Prop) (y x : Value) : Prop :=
  ∀ s, P s → ∀ (E : Value → Shared → Prop) (Q : Bool → Shared → Prop), (∀ s', P s' → Q true s') → wpAny (model prog w) A (eqBool y x) Q E s
def RcKeep (prog : Program) (w : World) (A : Around) (P : Shared → Prop) (y x : Value) : Prop :=
  ∀ s, P s → ∀ (E : Value → Shared → Prop) (Q : Value → Shared → Prop), (∀ s', P s' → Q (.bool true) s') → wpAny (model prog w) A (richCompare .Eq y x) Q E s
section
variable {prog : Program} {w : World} {A : Around} {P : Shared → Prop}
theorem EqKeep.at {y x : Value} (h : ∀ s, P s → EqAt A s y x true) : EqKeep prog w A P y x := fun s p E Q k => h s p prog w E Q (k s p)
theorem EqKeep.refs {l b : Addr} (h : RcKeep prog w A P (.ref l) (.ref b)) : EqKeep prog w A P (.ref l) (.ref b) := fun s p E Q k => by
  by_cases e : l = b
  · subst e
    exact EqAt.same (.ref l) prog w E Q (k s p)
  · unfold eqBool
    refine wpAny_holding (wpAny_ite_split (fun z => absurd (Value.ref.inj (eq_of_beq z)) e) fun _ => ?_)
    exact wpAny_bind (h s p E _ fun s' p' => wpAny_truthy_bool (k s' p'))
theorem tuple_keep (l b : Addr) (xs ys : Array Value) (n m : Nat) (dd de : Option Addr) (sl sm : Array (Option Value)) : MeetsIn prog w (Builtin.«tuple.__eq__» ⟨[.ref l, .ref b], []⟩)
    (fun A R s => s.heap.get? l = some { cls := .type "tuple", dict := dd, data := .seq xs n, slots := sl } ∧ s.heap.get? b = some { cls := .type "tuple", dict := de, data := .seq ys m, slots := sm } ∧
      xs.size = ys.size ∧ P s ∧ (∀ j (h1 : j < xs.size) (h2 : j < ys.size), EqKeep prog w A.in1 P xs[j] ys[j]) ∧ ∀ s', P s' → R (.ok (.ret (.bool true))) s') :=
  .of_wp fun A R s h => by
    obtain ⟨hp, g, d, tk, os⟩ := s
    obtain ⟨hl, hb, hsz, hP, he, hR⟩ := h
    have f2 := AutoSeq1.sub_tuple_tuple
    have lenZ : (xs.toList.zip ys.toList).length = xs.size := by simp [hsz]
    wp_walk using wpAny_loadPart' hl, wpAny_loadPart' hb, wpAny_forIn_list _ (fun rest q s' => q.1 = none ∧ P s' ∧ ∃ i, rest = (xs.toList.zip ys.toList).drop i) _
    case turn =>
      rintro ⟨y, x⟩ rest q s' ⟨hq, p', i, hz⟩
      have hlt : i < (xs.toList.zip ys.toList).length := Nat.lt_of_not_le fun z => by
        rw [List.drop_of_length_le z] at hz
        cases hz
      have h1 : i < xs.size := lenZ ▸ hlt
      have h2 : i < ys.size := hsz ▸ h1
      rw [List.drop_eq_getElem_cons hlt] at hz
      injection hz with hyx hrest
      obtain rfl : y = xs[i] := by simpa using congrArg Prod.fst hyx
      obtain rfl : x = ys[i] := by simpa using congrArg Prod.snd hyx
      refine wpAny_bind (he i h1 h2 s' p' _ _ fun s2 p2 => ?_)
      wp_walk
      exact ⟨rfl, p2, i + 1, hrest⟩
    case fin =>
      rintro ⟨q1, q2⟩ s' ⟨hq, p', i, hz⟩
      simp only at hq
      subst hq
      wp_walk
      exact ⟨_, rfl, by simpa [Builtin.Tuple.tupleCompareSizes, hsz] using hR s' p'⟩
    case h => exact ⟨rfl, hP, 0, rfl⟩
theorem rc_tuples {l b : Addr} {xs ys : Array Value} (hu : A.units < cLine) (hsz : xs.size = ys.size) {s : Shared} (p : P s) (h1 : s.heap.IsTuple l xs) (h2 : s.heap.IsTuple b ys) (he : ∀ j (h1 : j < xs.size) (h2 : j < ys.size), EqKeep prog w A.in1 P xs[j] ys[j])
    {E : Value → Shared → Prop} {Q : Value → Shared → Prop} (k : ∀ s', P s' → Q (.bool true) s') : wpAny (model prog w) A (richCompare .Eq (.ref l) (.ref b)) Q E s := by
  obtain ⟨⟨c1, dd, da, sl⟩, ho, hc, n, hd⟩ := h1
  obtain ⟨⟨c2, de, db, sm⟩, ho2, hc2, m, hd2⟩ := h2
  simp only at hc hd hc2 hd2
  subst hc hd hc2 hd2
  exact wpAny_richCompare_same_room (T := "tuple") (op := .Eq) ⟨_, ho, rfl⟩ ⟨_, ho2, rfl⟩ F.slot_tuple_eq (call_meetsIn F.slot_tuple_eq ⟨_, ho, rfl⟩ F.entry_tuple_eq (F.args_tuple_eq_2 _ _) (tuple_keep (P := P) l b xs ys n m dd de sl sm)
    ⟨ho, ho2, hsz, p, he, fun s' p' => show Value.bool true ≠ Value.notImplemented ∧ Q (.bool true) s' from ⟨(fun x => nomatch x), k s' p'⟩⟩) hu
end
section
variable {prog : Program} {w : World} {A : Around} {P : Shared → Prop} {k₀ : Type} [DecidableEq k₀] {knd : KeyKind prog w k₀}
end
section
open L2
open PyProof.Rows hiding St
def PP (X : Cx) (pins : List (Addr × Obj)) (σ : St) (H : Hp) (s : Shared) : Prop := ∃ H', Same H H' ∧ L2.Inv X pins σ H' s
def VK (X : Cx) (A : Around) (H : Hp) (v y : V) : Prop := ∀ pins σ u z, RelV v u → RelV y z → EqKeep X.prog X.w A (PP X pins σ H) u z
theorem VK.plain {X : Cx} {A : Around} {H : Hp} {v y : V} {d : PyData} (hv : Dp X.K H v d) (hy : Dp X.K H y d) (pl : d.plain = true) (hu : A.units + d.depth < cLine) (hs : ∀ H' x, Same H H' → Dp X.K H x d → Dp X.K H' x d) : VK X A H v y := fun pins σ u z ru rz =>
  EqKeep.at fun s ⟨H', sm, I⟩ => by
    obtain ⟨as, r1⟩ := Dp.reads I d v u (hs _ _ sm hv) ru
    obtain ⟨bs, r2⟩ := Dp.reads I d y z (hs _ _ sm hy) rz
    have h := eqAt_plain d d A s u z as bs r1 r2 pl pl (by omega)
    rwa [eqv_refl_plain d pl] at h
theorem VK.tuple {X : Cx} {A : Around} {H : Hp} {p q : Addr} {xs ys : List V} (hp : SqT X.K H p xs) (hq : SqT X.K H q ys) (hu : A.units < cLine) (h : PySem.Paired (fun v y => VK X A.in1 H v y) xs ys) : VK X A H (.ref p) (.ref q) := fun pins σ u z ru rz => by
  cases ru
  cases rz
  refine EqKeep.refs ?_
  intro s ⟨H', sm, I⟩ E Q k
  obtain ⟨us, r1, t1, _⟩ := I.tuple (same_seqT sm hp)
  obtain ⟨zs, r2, t2, _⟩ := I.tuple (same_seqT sm hq)
  have items : ∀ {xs ys : List V} {us zs : List Value}, PySem.Paired (fun v y => VK X A.in1 H v y) xs ys → Vals xs us → Vals ys zs → us.length = zs.length ∧ ∀ j (h1 : j < us.length) (h2 : j < zs.length), EqKeep X.prog X.w A.in1 (PP X pins σ H) us[j] zs[j] := by
    intro xs ys us zs hh
    induction hh generalizing us zs with
    | nil =>
      intro r1 r2
      cases r1
      cases r2
      exact ⟨rfl, fun j h1 _ => absurd h1 (by simp)⟩
    | cons h0 _ ih =>
      intro r1 r2
      cases r1 with
      | cons a1 b1 =>
        cases r2 with
        | cons a2 b2 =>
          obtain ⟨l, f⟩ := ih b1 b2
          refine ⟨by simp [l], fun j h1 h2 => ?_⟩
          cases j with
          | zero => exact h0 pins σ _ _ a1 a2
          | succ j => exact f j (by simpa using h1) (by simpa using h2)
  obtain ⟨hl, he⟩ := items h r1 r2
  exact rc_tuples (P := PP X pins σ H) hu (by simpa using hl) ⟨H', sm, I⟩ t1 t2 (fun j h1 h2 => he j (by simpa using h1) (by simpa using h2)) k
theorem VK.own {X : Cx} {A : Around} {H : Hp} {CX : CXT} {C f a b dx : Addr} {fs : List (Str × V)} {fd : FuncData} {ps : List Str} {k : Nat} {sp : Sp} {tb : Value} (F : FnOk X.prog X.w X.K X.mg X.base CX k f fd ps sp) (ncx : ∀ outer H s e s', CX outer H s (fun _ _ _ => False) e s' → False) (room : Room k A) (hA : A.frames = X.A.frames)
    (hm : Meth X.K C "__eq__" f) (hb : L2.Binds X.K fd ps []) (ha : H a = some (.ins C dx fs)) (ty : ∀ H', Same H H' → TyX X.K H' (.ref b) tb) (n : PySem.W.notFirst X.K C tb = true) (hsp : ∀ H', Same H H' → sp [.ref a, .ref b] H' (fun v H'' => v = .bl true ∧ Same H' H'') (fun _ _ _ => False)) : VK X A H (.ref a) (.ref b) := fun pins σ u z ru rz => by
  cases ru
  cases rz
  refine EqKeep.refs ?_
  intro s ⟨H', sm, I⟩ E Q kk
  obtain ⟨mA, J, _⟩ := ins_get I.hok (sm _ _ ha)
  obtain ⟨od, J, _⟩ := J.look
  obtain ⟨m, hF⟩ := I.fr
  obtain ⟨PP1, Z, hp, _⟩ := kit_of I (show RelV (.ref b) (.ref b) from rfl) (ty H' sm)
  refine PySem.W.cmp_K (op := .Eq) (tb := tb) room.units0 hF I.ok.mod.kin J (Z.ty _ _ I.kIn hp) n hm.at_ hm.fn ?_
  have q := hsp H' sm
  have hl : [Value.ref a, .ref b].length = ps.length := F.len _ _ _ _ q
  have e0 : Env0 X.prog X.w X.K X.mg X.base A X.stack s H' := { I.env0 with frames := hA.trans I.env0.frames }
  refine wpAny_call (codeAny_mono (F.run A X.stack s H' ⟨[.ref a, .ref b], []⟩ [.ref a, .ref b] [.ref a, .ref b] _ _ room e0 (by have := hb s [.ref a, .ref b] I.kIn (by rw [List.append_nil]; exact hl); rwa [List.append_nil] at this) (.cons rfl (.cons rfl .nil)) q) fun r s' hq => ?_)
  match r, hq with
  | .error e, hq => exact (ncx _ _ _ _ _ hq).elim
  | .ok (.ret u), hq =>
    obtain ⟨v, H2, I2, rv, rfl, s2⟩ := I.after hq
    cases rv
    exact kk s' ⟨H2, sm.trans s2, I2⟩
  | .ok .next, hq => exact hq.elim
  | .ok .brk, hq => exact hq.elim
  | .ok .cont, hq => exact hq.elim
end
end Wm
namespace Wm
open PySem L2 PySem.Spec PySem.W PySem.SeqAt
open PyProof.Rows hiding St
section
variable {X : Cx} {CX : CXT} {CG CW f : Addr} {fd : FuncData} {ps : List Str}
end
end Wm
namespace Wm
open PySem L2 PySem.Spec PySem.W PySem.SeqAt
open PyProof.Rows hiding St
theorem lastOcc_head {a : Str} {l : List Str} (h : a ∉ l) : lastOcc (a :: l) = a :: lastOcc l := by
  rw [lastOcc, if_neg h]
end Wm
namespace Wm
open PySem L2 PySem.Spec PySem.W PySem.SeqAt
open PyProof.Rows hiding St
section
variable {X : Cx} {body : List Stmt} {h₀ : ExceptHandler} {hds : List ExceptHandler} {l : List (Value × Nat × (Addr → Value → Option Addr → TS))} {pos : Pos} {tb : WX → TS} {Wout : WX}
end
end Wm
namespace Wm
open PySem L2 PySem.Spec PySem.W PySem.SeqAt
open PyProof.Rows hiding St
def FldV (H : Hp) (v : V) : Prop := (∃ x, v = .str x ∧ x.length ≤ sizeLine) ∨ (AnyV H v ∧ ∀ x, v ≠ .str x)
theorem FldV.same {H H' : Hp} {v : V} (h : FldV H v) (s : Same H H') : FldV H' v := h.imp id fun ⟨a, c⟩ => ⟨a.same s, c⟩
end Wm
namespace Wm
open PySem L2 PySem.Spec PySem.W PySem.SeqAt
open PyProof.Rows hiding St
theorem fields_names {rows : List Row} {n : Str} (hok : SchOk rows) (h : n ∈ names rows) : ((fieldsF rows n).map (·.1)).Nodup := by
  obtain ⟨r, hr, rfl⟩ := List.mem_map.mp h
  obtain ⟨k, hk⟩ := List.mem_iff_getElem?.mp hr
  have hro := hok.ok k r hk
  have split : rows = (rows.take k ++ [r]) ++ rows.drop (k + 1) := by
    rw [← take_more hk, List.take_append_drop]
  have h1 : r.name ∈ names (rows.take k ++ [r]) := by unfold names; simp
  have h2 : fieldsF rows r.name = fieldsF (rows.take k ++ [r]) r.name := by
    rw [show fieldsF rows r.name = fieldsF ((rows.take k ++ [r]) ++ rows.drop (k + 1)) r.name from congrArg (fun z => fieldsF z r.name) split]
    exact fields_keep (RowsOk.bs ((hok.ok.take k).snoc hro)) h1
  rw [h2]
  exact hro.fnd
def NoFld (K : PySem.W.Frag) (rows : List Row) (k : Str) (H : Hp) (v : V) : Prop := FldV H v ∧ (∀ x, x ∈ fieldsF rows k → v ≠ .str x.1) ∧ ∃ d, Dp K H v d ∧ d.plain = true ∧ d.depth ≤ 60
theorem NoFld.str {K : PySem.W.Frag} {rows : List Row} {k : Str} {H : Hp} {t : Str} (ht : t.length ≤ 100) (hn : ∀ x, x ∈ fieldsF rows k → t ≠ x.1) : NoFld K rows k H (.str t) := by
  refine ⟨.inl ⟨t, rfl, by rw [PySem.sizeLine_eq]; omega⟩, fun x hx e => hn x hx (V.str.inj e), .str t, .str t, rfl, ?_⟩
  simp [PyData.depth]
theorem NoFld.non {K : PySem.W.Frag} {rows : List Row} {k : Str} {H : Hp} : NoFld K rows k H .non := by
  refine ⟨.inr ⟨trivial, fun x z => ?_⟩, fun x hx e => ?_, .none, .non, rfl, ?_⟩
  · cases z
  · cases e
  · simp [PyData.depth]
theorem NoFld.bl {K : PySem.W.Frag} {rows : List Row} {k : Str} {H : Hp} (b : Bool) : NoFld K rows k H (.bl b) := by
  refine ⟨.inr ⟨trivial, fun x z => ?_⟩, fun x hx e => ?_, .bool b, .bl b, rfl, ?_⟩
  · cases z
  · cases e
  · simp [PyData.depth]
theorem NoFld.int {K : PySem.W.Frag} {rows : List Row} {k : Str} {H : Hp} (n : Int) : NoFld K rows k H (.int n) := by
  refine ⟨.inr ⟨trivial, fun x z => ?_⟩, fun x hx e => ?_, .int n, .int n, rfl, ?_⟩
  · cases z
  · cases e
  · simp [PyData.depth]
theorem NoFld.lst {K : PySem.W.Frag} {rows : List Row} {k : Str} {H : Hp} {b : Addr} {l : List Str} (e : H b = some (.lst (l.map V.str))) : NoFld K rows k H (.ref b) := by
  have hd : DpAll K H (l.map V.str) (l.map PyData.str) := dps_str l
  refine ⟨.inr ⟨.inl ⟨_, e⟩, fun x z => ?_⟩, fun x hx e => ?_, .list (l.map PyData.str), .lst (.of e) hd, ?_, ?_⟩
  · cases z
  · cases e
  · rw [PyData.plain]
    induction l with
    | nil => rfl
    | cons a l ih =>
      rw [List.map_cons, PyData.plainAll]
      have h : PyData.plainAll (l.map PyData.str) = true := by
        clear ih hd e
        induction l with
        | nil => rfl
        | cons b l ih2 =>
          rw [List.map_cons, PyData.plainAll, ih2]
          rfl
      rw [h]
      rfl
  · rw [PyData.depth, strs_depth]
    decide
theorem StpsAt.hid {H : Hp} {q D : Addr} {l : List Stp} {xs : List V} (h : StpsAt H q l) (n : q ≠ D) (e : H D = some (.lst xs)) : StpsAt (hid D H) q l := by
  obtain ⟨vs, h1, h2⟩ := h
  refine ⟨vs, hid_at n h1, h2.mono fun x v z => ?_⟩
  obtain ⟨t, rfl, z⟩ := z
  exact ⟨t, rfl, hid_at (ne_of z e (by intro z; cases z)) z⟩
def StpRef (H : Hp) (l : List Stp) (v : V) : Prop := ∃ q, v = .ref q ∧ StpsAt H q l
theorem StpRef.same {H H' : Hp} {l : List Stp} {v : V} (h : StpRef H l v) (s : Same H H') : StpRef H' l v := by
  obtain ⟨q, rfl, h⟩ := h
  exact ⟨q, rfl, h.same s⟩
theorem OddK.step {rows : List Row} {H H' : Hp} {p c : Addr} {v : V} (h : OddK rows H v) (hp : PenAt H p c) (t : PenStep p c H H') : OddK rows H' v := by
  rcases h with h | h | h | h | ⟨q, n, rfl, e⟩
  · exact .inl h
  · exact .inr (.inl h)
  · exact .inr (.inr (.inl h))
  · exact .inr (.inr (.inr (.inl h)))
  · exact .inr (.inr (.inr (.inr ⟨q, n, rfl, t.at hp e rfl⟩)))
end Wm
namespace Wm
open PySem L2 PySem.Spec PySem.W PySem.SeqAt
open PyProof.Rows hiding St
def NoSlotT (nm T : String) : Prop := fillsNumberSlot (.type T) nm = pure false
theorem no_or_tuple : NoSlotT "or" "tuple" := by unfold NoSlotT; kernel_rfl
theorem no_or_list : NoSlotT "or" "list" := by unfold NoSlotT; kernel_rfl
theorem no_or_str : NoSlotT "or" "str" := by unfold NoSlotT; kernel_rfl
theorem no_or_none : NoSlotT "or" "NoneType" := by unfold NoSlotT; kernel_rfl
section
variable {s : Shared} {K : Frag} {x C L f : Addr} {h₀ : Heap} {m : Str → Option Value} {ox : Obj} {od : Option Obj} {A : Around} {E : Value → Shared → Prop}
end
section
variable {X : Cx} {CX : CXT} {C f : Addr} {fd : FuncData} {ps : List Str} {k : Nat} {sp : Sp} {E : XK}
end
inductive Chg
  | lim (l : Option Nat)
  | fre (b : Bool)
  | sta (n : Str)
  | gua (n : Str) (g : G5)
  | fld (wd : Str) (p : Str × Str)
def fldsF : List Str := ["out", "on", "anew"]
def chgF : Chg → Wk → Wk
  | .lim l, w => { w with lim := l }
  | .fre b, w => { w with frees := b }
  | .sta n, w => { w with start := n }
  | .gua n g, w => { w with gs := (w.gs.filter fun x => !decide (x.1 = n)) ++ [(n, g)] }
  | .fld wd p, w => { w with out := (w.out.filter fun x => !decide (x = p)) ++ (if wd = "out" then [p] else []), anew := (w.anew.filter fun x => !decide (x = p)) ++ (if wd = "anew" then [p] else []) }
def ChgOk (rows : List Row) : Chg → Prop
  | .lim l => ∀ n, l = some n → n ≤ 20
  | .fre _ => True
  | .sta n => n ∈ names rows ∧ underF rows n ≠ []
  | .gua n g => n ∈ names rows ∧ G5Ok g
  | .fld wd p => wd ∈ fldsF ∧ p ∈ ownPairs rows
structure POk (rows : List Row) (w : Wk) : Prop where
  st : w.start ∈ names rows
  un : underF rows w.start ≠ []
  gn : ∀ x, x ∈ w.gs → x.1 ∈ names rows
  g5 : ∀ x, x ∈ w.gs → G5Ok x.2
  gnd : (w.gs.map (·.1)).Nodup
  on : ∀ x, x ∈ w.out → x ∈ ownPairs rows
  ond : w.out.Nodup
  nn : ∀ x, x ∈ w.anew → x ∈ ownPairs rows
  nnd : w.anew.Nodup
  dis : ∀ x, x ∈ w.anew → x ∉ w.out
  lim : ∀ m, w.lim = some m → m ≤ 20
theorem POk.parts {K : PySem.W.Frag} {CG : Addr} {H : Hp} {rows : List Row} {w : Wk} {ga oa na : Addr} {gxs oxs nxs : List V} (h : POk rows w) (g1 : SqB K H ga gxs) (g2 : All2 (GRowAt CG H) w.gs gxs) (o1 : SqB K H oa oxs) (o2 : All2 (PairAt H) w.out oxs) (n1 : SqB K H na nxs) (n2 : All2 (PairAt H) w.anew nxs) : PartsIn K CG H rows w ga oa na gxs oxs nxs where
  gat := g1
  g := g2
  oat := o1
  o := o2
  nat := n1
  n := n2
  st := h.st
  un := h.un
  gn := h.gn
  gnd := h.gnd
  on := h.on
  ond := h.ond
  nn := h.nn
  nnd := h.nnd
  dis := h.dis
  lim := h.lim
def ElV (H : Hp) (v : V) : Prop := (∃ x, v = .str x ∧ x.length ≤ sizeLine) ∨ v = .non ∨ (∃ b, v = .bl b) ∨ (∃ i, v = .int i) ∨ (∃ q xs, v = .ref q ∧ H q = some (.lst xs)) ∨ ∃ q, v = .ref q ∧ H q = some (.dK [])
theorem ElV.any {H : Hp} {v : V} (h : ElV H v) : AnyV H v := by
  rcases h with ⟨x, rfl, hl⟩ | rfl | ⟨b, rfl⟩ | ⟨i, rfl⟩ | ⟨q, n, rfl, e⟩ | ⟨q, rfl, e⟩
  · trivial
  · trivial
  · trivial
  · trivial
  · exact .inl ⟨_, e⟩
  · exact .inr (.inr ⟨_, e⟩)
theorem ElV.same {H H' : Hp} {v : V} (h : ElV H v) (s : Same H H') : ElV H' v := by
  rcases h with h | h | h | h | ⟨q, n, rfl, e⟩ | ⟨q, rfl, e⟩
  · exact .inl h
  · exact .inr (.inl h)
  · exact .inr (.inr (.inl h))
  · exact .inr (.inr (.inr (.inl h)))
  · exact .inr (.inr (.inr (.inr (.inl ⟨q, n, rfl, s _ _ e⟩))))
  · exact .inr (.inr (.inr (.inr (.inr ⟨q, rfl, s _ _ e⟩))))
theorem ElV.str {H : Hp} {v : V} (h : ElV H v) : (∃ x, v = .str x ∧ x.length ≤ sizeLine) ∨ (AnyV H v ∧ ∀ x, v ≠ .str x) := by
  rcases id h with ⟨x, rfl, hl⟩ | rfl | ⟨b, rfl⟩ | ⟨i, rfl⟩ | ⟨q, n, rfl, e⟩ | ⟨q, rfl, e⟩
  · exact .inl ⟨x, rfl, hl⟩
  all_goals exact .inr ⟨h.any, fun x z => by cases z⟩
theorem ElV.kn {H : Hp} {v : V} (h : ElV H v) : ∃ b, KnV H v b := by
  rcases h.str with ⟨x, rfl, hl⟩ | ⟨h1, h2⟩
  · exact ⟨_, .inl ⟨x, rfl, hl, rfl⟩⟩
  · exact ⟨false, .inr ⟨h1, h2, rfl⟩⟩
theorem ElV.fld {H : Hp} {v : V} (h : ElV H v) : FldV H v := by
  rcases h.str with ⟨x, rfl, hl⟩ | h
  · exact .inl ⟨x, rfl, hl⟩
  · exact .inr h
theorem PenAt.nonil {H : Hp} {p c : Addr} (h : PenAt H p c) : ∃ o, H p = some o ∧ o ≠ .dK [] := by
  obtain ⟨ns, a, r, g, m, t, h1, h2, h3⟩ := h.ex
  exact ⟨_, h1, by intro z; cases z⟩
theorem ElV.step {p c : Addr} {H H' : Hp} {v : V} (h : ElV H v) (hp : PenAt H p c) (s : PenStep p c H H') : ElV H' v := by
  rcases h with h | h | h | h | ⟨q, n, rfl, e⟩ | ⟨q, rfl, e⟩
  · exact .inl h
  · exact .inr (.inl h)
  · exact .inr (.inr (.inl h))
  · exact .inr (.inr (.inr (.inl h)))
  · exact .inr (.inr (.inr (.inr (.inl ⟨q, n, rfl, s.at hp e rfl⟩))))
  · refine .inr (.inr (.inr (.inr (.inr ⟨q, rfl, s.atd e fun z => by
      obtain ⟨o, h1, h2⟩ := hp.nonil
      rw [z, h1] at e
      exact h2 (Option.some.inj e)⟩))))
def limB : V → Bool
  | .non => true
  | .int i => decide (0 ≤ i) && decide (i ≤ 20)
  | _ => false
def startB (rows : List Row) (v : V) : Prop := ∃ n, v = .str n ∧ n ∈ names rows ∧ underF rows n ≠ []
def ownB (rows : List Row) (y z : V) : Prop := ∃ o f, y = .str o ∧ z = .str f ∧ ownsF rows o f = true
structure Bad2 (rows : List Row) (wd : Str) (y : V) : Prop where
  lim : wd = "limit" → limB y = false
  fre : wd = "frees" → ∀ b, y ≠ .bl b
  sta : wd = "start" → ¬ startB rows y
structure Bad3 (H : Hp) (rows : List Row) (wd : Str) (y z : V) : Prop where
  gua : wd = "guard" → (∃ n, y = .str n ∧ n ∈ names rows) → ElV H z
  fld : wd ∈ fldsF → ElV H z ∧ ¬ ownB rows y z
def BadT (CG : Addr) (rows : List Row) (H : Hp) : List V → Prop
  | [x, y] => ElV H x ∧ ElV H y ∧ ∀ wd, x = .str wd → Bad2 rows wd y
  | [x, y, z] => ElV H x ∧ ElV H y ∧ (ElV H z ∨ ∃ g, GuAt CG H g z) ∧ ∀ wd, x = .str wd → Bad3 H rows wd y z
  | l => l.length ≤ 10
def BadC (CG : Addr) (rows : List Row) (H : Hp) (v : V) : Prop := v = .non ∨ (∃ x, v = .str x) ∨ (∃ a xs, v = .ref a ∧ H a = some (.lst xs)) ∨ ∃ t xs, v = .ref t ∧ H t = some (.tup xs) ∧ BadT CG rows H xs
theorem BadT.mono {CG : Addr} {rows : List Row} {H H' : Hp} (he : ∀ v, ElV H v → ElV H' v) (hg : ∀ g v, GuAt CG H g v → GuAt CG H' g v) : ∀ {xs : List V}, BadT CG rows H xs → BadT CG rows H' xs
  | [x, y], ⟨h1, h2, h3⟩ => ⟨he _ h1, he _ h2, h3⟩
  | [x, y, z], ⟨h1, h2, h3, h4⟩ => ⟨he _ h1, he _ h2, h3.imp (he _) (fun ⟨g, z⟩ => ⟨g, hg _ _ z⟩), fun wd e => ⟨fun a b => he _ ((h4 wd e).gua a b), fun a => ⟨he _ ((h4 wd e).fld a).1, ((h4 wd e).fld a).2⟩⟩⟩
  | [], h => h
  | [_], h => h
  | _ :: _ :: _ :: _ :: _, h => h
theorem BadC.same {CG : Addr} {rows : List Row} {H H' : Hp} {v : V} (h : BadC CG rows H v) (s : Same H H') : BadC CG rows H' v := by
  rcases h with h | h | ⟨a, xs, rfl, e⟩ | ⟨t, xs, rfl, e, b⟩
  · exact .inl h
  · exact .inr (.inl h)
  · exact .inr (.inr (.inl ⟨a, xs, rfl, s _ _ e⟩))
  · exact .inr (.inr (.inr ⟨t, xs, rfl, s _ _ e, b.mono (fun _ z => z.same s) (fun _ _ z => z.same s)⟩))
theorem BadC.step {CG p c : Addr} {rows : List Row} {H H' : Hp} {v : V} (h : BadC CG rows H v) (hp : PenAt H p c) (s : PenStep p c H H') : BadC CG rows H' v := by
  rcases h with h | h | ⟨a, xs, rfl, e⟩ | ⟨t, xs, rfl, e, b⟩
  · exact .inl h
  · exact .inr (.inl h)
  · exact .inr (.inr (.inl ⟨a, xs, rfl, s.at hp e rfl⟩))
  · exact .inr (.inr (.inr ⟨t, xs, rfl, s.at hp e rfl, b.mono (fun _ z => z.step hp s) (fun _ _ z => z.step hp s)⟩))
theorem BadC.ty {K : PySem.W.Frag} {CG : Addr} {rows : List Row} {H : Hp} {v : V} (h : BadC CG rows H v) : ∃ T, TyX K H v (.type T) ∧ NoSlotT "or" T := by
  rcases h with rfl | ⟨x, rfl⟩ | ⟨a, xs, rfl, e⟩ | ⟨t, xs, rfl, e, b⟩
  · exact ⟨_, .base .non, no_or_none⟩
  · exact ⟨_, .base (.str x), no_or_str⟩
  · exact ⟨_, .base (.lst e), no_or_list⟩
  · exact ⟨_, .base (.tup e), no_or_tuple⟩
def ChgAt (CG : Addr) (H : Hp) (c : Chg) (v : V) : Prop := ∃ t, v = .ref t ∧ match c with
  | .lim l => H t = some (.tup [.str "limit", limV l])
  | .fre b => H t = some (.tup [.str "frees", .bl b])
  | .sta n => H t = some (.tup [.str "start", .str n])
  | .gua n g => ∃ gv, H t = some (.tup [.str "guard", .str n, gv]) ∧ GuAt CG H g gv
  | .fld wd p => H t = some (.tup [.str wd, .str p.1, .str p.2])
theorem ChgAt.same {CG : Addr} {H H' : Hp} {c : Chg} {v : V} (h : ChgAt CG H c v) (s : Same H H') : ChgAt CG H' c v := by
  obtain ⟨t, rfl, h⟩ := h
  refine ⟨t, rfl, ?_⟩
  cases c with
  | gua n g =>
    obtain ⟨gv, e, h⟩ := h
    exact ⟨gv, s _ _ e, h.same s⟩
  | _ => exact s _ _ h
theorem ChgAt.step {CG p c : Addr} {H H' : Hp} {g : Chg} {v : V} (h : ChgAt CG H g v) (hp : PenAt H p c) (s : PenStep p c H H') : ChgAt CG H' g v := by
  obtain ⟨t, rfl, h⟩ := h
  refine ⟨t, rfl, ?_⟩
  cases g with
  | gua n g =>
    obtain ⟨gv, e, h⟩ := h
    exact ⟨gv, s.at hp e rfl, h.step hp s⟩
  | _ => exact s.at hp h rfl
theorem ChgAt.tup {CG : Addr} {H : Hp} {c : Chg} {v : V} (h : ChgAt CG H c v) : ∃ t xs, v = .ref t ∧ H t = some (.tup xs) := by
  obtain ⟨t, rfl, h⟩ := h
  cases c with
  | gua n g =>
    obtain ⟨gv, e, h⟩ := h
    exact ⟨t, _, rfl, e⟩
  | _ => exact ⟨t, _, rfl, h⟩
theorem ChgAt.ty {K : PySem.W.Frag} {CG : Addr} {H : Hp} {c : Chg} {v : V} (h : ChgAt CG H c v) : TyX K H v (.type "tuple") := by
  obtain ⟨t, xs, rfl, e⟩ := h.tup
  exact .base (.tup e)
def OffAt (CG : Addr) (rows : List Row) (H : Hp) : Option Chg → V → Prop
  | some c, v => ChgAt CG H c v ∧ ChgOk rows c
  | none, v => BadC CG rows H v
theorem OffAt.same {CG : Addr} {rows : List Row} {H H' : Hp} {o : Option Chg} {v : V} (h : OffAt CG rows H o v) (s : Same H H') : OffAt CG rows H' o v := by
  cases o with
  | none => exact BadC.same h s
  | some c => exact ⟨h.1.same s, h.2⟩
theorem OffAt.ty {K : PySem.W.Frag} {CG : Addr} {rows : List Row} {H : Hp} {o : Option Chg} {v : V} (h : OffAt CG rows H o v) : ∃ T, TyX K H v (.type T) ∧ NoSlotT "or" T := by
  cases o with
  | none => exact BadC.ty h
  | some c => exact ⟨_, h.1.ty, no_or_tuple⟩
theorem ElV.lim {H : Hp} (l : Option Nat) : ElV H (limV l) := by
  cases l with
  | none => exact .inr (.inl rfl)
  | some n => exact .inr (.inr (.inr (.inl ⟨_, rfl⟩)))
inductive Off2 (rows : List Row) : Option Chg → Str → V → Prop
  | bad {wd : Str} {y : V} (h : Bad2 rows wd y) : Off2 rows none wd y
  | lim (l : Option Nat) (h : limB (limV l) = true) : Off2 rows (some (.lim l)) "limit" (limV l)
  | fre (b : Bool) : Off2 rows (some (.fre b)) "frees" (.bl b)
  | sta (n : Str) (h : startB rows (.str n)) : Off2 rows (some (.sta n)) "start" (.str n)
inductive Off3 (CG : Addr) (rows : List Row) (H : Hp) : Option Chg → Str → V → V → Prop
  | bad {wd : Str} {y z : V} (h : Bad3 H rows wd y z) : Off3 CG rows H none wd y z
  | gua (n : Str) (g : G5) (z : V) (hn : n ∈ names rows) (hg : GuAt CG H g z) (h5 : G5Ok g) : Off3 CG rows H (some (.gua n g)) "guard" (.str n) z
  | fld (wd : Str) (p : Str × Str) (hw : wd ∈ fldsF) (hp : p ∈ ownPairs rows) : Off3 CG rows H (some (.fld wd p)) wd (.str p.1) (.str p.2)
inductive OffT (CG : Addr) (rows : List Row) (H : Hp) : Option Chg → List V → Prop
  | odd {xs : List V} (h2 : xs.length ≠ 2) (h3 : xs.length ≠ 3) : OffT CG rows H none xs
  | nw2 {x y : V} (h : AnyV H x) (hn : ∀ wd, x ≠ .str wd) : OffT CG rows H none [x, y]
  | nw3 {x y z : V} (h : AnyV H x) (hn : ∀ wd, x ≠ .str wd) : OffT CG rows H none [x, y, z]
  | two {o : Option Chg} {wd : Str} {y : V} (hy : ElV H y) (h : Off2 rows o wd y) : OffT CG rows H o [.str wd, y]
  | three {o : Option Chg} {wd : Str} {y z : V} (hy : ElV H y) (hz : ElV H z ∨ ∃ g, GuAt CG H g z) (h : Off3 CG rows H o wd y z) : OffT CG rows H o [.str wd, y, z]
theorem el_str {H : Hp} {x : Str} (h : x.length ≤ sizeLine) : ElV H (.str x) := .inl ⟨x, rfl, h⟩
theorem el_name {H : Hp} {rows : List Row} {n : Str} (hok : SchOk rows) (h : n ∈ names rows) : ElV H (.str n) := el_str (by
  have := kindName_len (hok.ok.kn h)
  rw [PySem.sizeLine_eq]
  omega)
theorem BadT.off {CG : Addr} {rows : List Row} {H : Hp} : ∀ {xs : List V}, BadT CG rows H xs → OffT CG rows H none xs
  | [], _ => .odd (by simp) (by simp)
  | [_], _ => .odd (by simp) (by simp)
  | [x, y], ⟨h1, h2, h3⟩ => by
    rcases h1.str with ⟨wd, rfl, _⟩ | ⟨ha, hn⟩
    · exact .two h2 (.bad (h3 wd rfl))
    · exact .nw2 ha hn
  | [x, y, z], ⟨h1, h2, h3, h4⟩ => by
    rcases h1.str with ⟨wd, rfl, _⟩ | ⟨ha, hn⟩
    · exact .three h2 h3 (.bad (h4 wd rfl))
    · exact .nw3 ha hn
  | _ :: _ :: _ :: _ :: _, _ => .odd (by simp) (by simp)
theorem OffAt.split {CG : Addr} {rows : List Row} {H : Hp} {o : Option Chg} {v : V} (hok : SchOk rows) (h : OffAt CG rows H o v) : (o = none ∧ (v = .non ∨ (∃ x, v = .str x) ∨ ∃ a xs, v = .ref a ∧ H a = some (.lst xs))) ∨ ∃ t xs, v = .ref t ∧ H t = some (.tup xs) ∧ OffT CG rows H o xs := by
  cases o with
  | none =>
    rcases h with h | h | h | ⟨t, xs, rfl, e, b⟩
    · exact .inl ⟨rfl, .inl h⟩
    · exact .inl ⟨rfl, .inr (.inl h)⟩
    · exact .inl ⟨rfl, .inr (.inr h)⟩
    · exact .inr ⟨t, xs, rfl, e, b.off⟩
  | some c =>
    obtain ⟨⟨t, rfl, h⟩, hc⟩ := h
    refine .inr ?_
    cases c with
    | lim l =>
      refine ⟨t, _, rfl, h, .two (.lim l) (.lim l ?_)⟩
      cases l with
      | none => rfl
      | some n =>
        have := hc n rfl
        simp only [limV, limB]
        have h1 : decide (0 ≤ ((n : Nat) : Int)) = true := decide_eq_true (by omega)
        have h2 : decide (((n : Nat) : Int) ≤ 20) = true := decide_eq_true (by omega)
        rw [h1, h2]
        rfl
    | fre b => exact ⟨t, _, rfl, h, .two (.inr (.inr (.inl ⟨b, rfl⟩))) (.fre b)⟩
    | sta n => exact ⟨t, _, rfl, h, .two (el_name hok hc.1) (.sta n ⟨n, rfl, hc.1, hc.2⟩)⟩
    | gua n g =>
      obtain ⟨gv, e, hg⟩ := h
      exact ⟨t, _, rfl, e, .three (el_name hok hc.1) (.inr ⟨g, hg⟩) (.gua n g gv hc.1 hg hc.2)⟩
    | fld wd p =>
      obtain ⟨_, l1, l2⟩ := owns_pair hok hc.2
      exact ⟨t, _, rfl, h, .three (el_str l1) (.inl (el_str l2)) (.fld wd p hc.1 hc.2)⟩
section
variable (st g o n l : V) (f : Bool) (v : V)
end
def PartsD (K : PySem.W.Frag) (CG : Addr) (H : Hp) (rows : List Row) (w : Wk) (d : Addr) : Prop := ∃ ga oa na gxs oxs nxs, H d = some (.dK (pkvs (.str w.start) (.ref ga) (.ref oa) (.ref na) (limV w.lim) w.frees)) ∧ PartsIn K CG H rows w ga oa na gxs oxs nxs
theorem PartsD.same {K : PySem.W.Frag} {CG d : Addr} {H H' : Hp} {rows : List Row} {w : Wk} (h : PartsD K CG H rows w d) (s : Same H H') : PartsD K CG H' rows w d := by
  obtain ⟨ga, oa, na, gxs, oxs, nxs, e, pt⟩ := h
  exact ⟨ga, oa, na, gxs, oxs, nxs, s _ _ e, pt.same s⟩
def GotC (ad : Addr) (H : Hp) (E : XK) (i : Nat) : Prop := ∀ d H', Same H H' → H d = none → H' d = some (.xd [("at", .int (i : Nat))]) → E (.ref ad) (some d) H'
theorem GotC.same {ad : Addr} {H H' : Hp} {E : XK} {i : Nat} (h : GotC ad H E i) (s : Same H H') : GotC ad H' E i := fun d H2 s2 n e => h d H2 (s.trans s2) (s.free n) e
def runC : Nat → List (Option Chg) → Wk → Nat ⊕ Wk
  | _, [], w => .inr w
  | i, none :: _, _ => .inl i
  | i, some c :: l, w => runC (i + 1) l (chgF c w)
section
variable {CG t : Addr} {rows : List Row} {H : Hp} {x y z : V} {wd : Str}
theorem BadC.t0 {xs : List V} (e : H t = some (.tup xs)) (h : BadT CG rows H xs) : BadC CG rows H (.ref t) := .inr (.inr (.inr ⟨t, xs, rfl, e, h⟩))
theorem BadC.t2 (e : H t = some (.tup [.str wd, y])) (hw : wd.length ≤ 100) (hy : ElV H y) (hb : Bad2 rows wd y) : BadC CG rows H (.ref t) := .t0 e ⟨el_str (by rw [PySem.sizeLine_eq]; omega), hy, fun w' e => by
  cases e
  exact hb⟩
theorem BadC.t3 (e : H t = some (.tup [.str wd, y, z])) (hw : wd.length ≤ 100) (hy : ElV H y) (hz : ElV H z ∨ ∃ g, GuAt CG H g z) (hb : Bad3 H rows wd y z) : BadC CG rows H (.ref t) := .t0 e ⟨el_str (by rw [PySem.sizeLine_eq]; omega), hy, hz, fun w' e => by
  cases e
  exact hb⟩
theorem BadC.n2 (e : H t = some (.tup [x, y])) (hx : ElV H x) (hy : ElV H y) (hn : ∀ wd, x ≠ .str wd) : BadC CG rows H (.ref t) := .t0 e ⟨hx, hy, fun w' e => absurd e (hn w')⟩
theorem BadC.n3 (e : H t = some (.tup [x, y, z])) (hx : ElV H x) (hy : ElV H y) (hz : ElV H z ∨ ∃ g, GuAt CG H g z) (hn : ∀ wd, x ≠ .str wd) : BadC CG rows H (.ref t) := .t0 e ⟨hx, hy, hz, fun w' e => absurd e (hn w')⟩
theorem Bad2.no (h1 : wd ≠ "limit") (h2 : wd ≠ "frees") (h3 : wd ≠ "start") : Bad2 rows wd y := ⟨fun z => absurd z h1, fun z => absurd z h2, fun z => absurd z h3⟩
theorem Bad3.no (h1 : wd ≠ "guard") (h2 : wd ∉ fldsF) : Bad3 H rows wd y z := ⟨fun z => absurd z h1, fun z => absurd z h2⟩
theorem el_lst {q : Addr} {xs : List V} (e : H q = some (.lst xs)) : ElV H (.ref q) := .inr (.inr (.inr (.inr (.inl ⟨q, xs, rfl, e⟩))))
theorem el_dic {q : Addr} (e : H q = some (.dK [])) : ElV H (.ref q) := .inr (.inr (.inr (.inr (.inr ⟨q, rfl, e⟩))))
end
theorem ElV.putL {H : Hp} {v : V} {A : Addr} {ws xs : List V} (h : ElV H v) (e : H A = some (.lst ws)) : ElV (upd H A (.lst xs)) v := by
  rcases h with h | h | h | h | ⟨q, n, rfl, e1⟩ | ⟨q, rfl, e1⟩
  · exact .inl h
  · exact .inr (.inl h)
  · exact .inr (.inr (.inl h))
  · exact .inr (.inr (.inr (.inl h)))
  · by_cases hq : q = A
    · subst hq
      exact el_lst upd_same
    · exact el_lst ((upd_ne hq).trans e1)
  · exact el_dic ((upd_ne (ne_of e1 e (by intro z; cases z))).trans e1)
theorem GuAt.putL {CG : Addr} {H : Hp} {g : G5} {v : V} {A : Addr} {ws xs : List V} (h : GuAt CG H g v) (e : H A = some (.lst ws)) : GuAt CG (upd H A (.lst xs)) g v := by
  obtain ⟨a, dx, rfl, e1⟩ := h
  exact ⟨a, dx, rfl, (upd_ne (ne_of e1 e (by intro z; cases z))).trans e1⟩
theorem BadC.putL {CG : Addr} {rows : List Row} {H : Hp} {v : V} {A : Addr} {ws xs : List V} (h : BadC CG rows H v) (e : H A = some (.lst ws)) : BadC CG rows (upd H A (.lst xs)) v := by
  rcases h with h | h | ⟨a, ys, rfl, e1⟩ | ⟨t, ys, rfl, e1, b⟩
  · exact .inl h
  · exact .inr (.inl h)
  · by_cases hq : a = A
    · subst hq
      exact .inr (.inr (.inl ⟨_, _, rfl, upd_same⟩))
    · exact .inr (.inr (.inl ⟨_, _, rfl, (upd_ne hq).trans e1⟩))
  · exact .inr (.inr (.inr ⟨t, ys, rfl, (upd_ne (ne_of e1 e (by intro z; cases z))).trans e1, b.mono (fun _ z => z.putL e) (fun _ _ z => z.putL e)⟩))
theorem r_joinS {t : TS} {D : Ends} {σ : St} {H : Hp} (P : St → Hp → Prop) (rest : ∀ σ H, P σ H → D.nx σ H) (k : ∀ N : St → Hp → Prop, (∀ σ H, P σ H → N σ H) → t { D with nx := N } σ H) : t D σ H := k D.nx rest
structure Offs (CG : Addr) (rows : List Row) (H : Hp) (L : Addr) (i : Nat) : Prop where
  ex : ∃ (x0 x1 x2 v : V) (os : List (Option Chg)), H L = some (.lst [x0, x1, x2]) ∧ All2 (OffAt CG rows H) os [x0, x1, x2] ∧ (∀ w, runC 0 os w = .inl i) ∧ [x0, x1, x2][i]? = some v ∧ BadC CG rows H v
theorem OffAt.step {CG p c : Addr} {rows : List Row} {H H' : Hp} {o : Option Chg} {v : V} (h : OffAt CG rows H o v) (hp : PenAt H p c) (s : PenStep p c H H') : OffAt CG rows H' o v := by
  cases o with
  | none => exact BadC.step h hp s
  | some c => exact ⟨h.1.step hp s, h.2⟩
theorem ChgAt.putL {CG : Addr} {H : Hp} {c : Chg} {v : V} {A : Addr} {ws xs : List V} (h : ChgAt CG H c v) (e : H A = some (.lst ws)) : ChgAt CG (upd H A (.lst xs)) c v := by
  obtain ⟨t, rfl, h⟩ := h
  refine ⟨t, rfl, ?_⟩
  cases c with
  | gua n g =>
    obtain ⟨gv, e1, h⟩ := h
    exact ⟨gv, (upd_ne (ne_of e1 e (by intro z; cases z))).trans e1, h.putL e⟩
  | _ => exact (upd_ne (ne_of h e (by intro z; cases z))).trans h
theorem OffAt.putL {CG : Addr} {rows : List Row} {H : Hp} {o : Option Chg} {v : V} {A : Addr} {ws xs : List V} (h : OffAt CG rows H o v) (e : H A = some (.lst ws)) : OffAt CG rows (upd H A (.lst xs)) o v := by
  cases o with
  | none => exact BadC.putL h e
  | some c => exact ⟨h.1.putL e, h.2⟩
structure Ps (p c q : Addr) (H H' : Hp) : Prop where
  T : PenStep p c H (hid q H')
theorem hid_same {q : Addr} {H : Hp} : Same (hid q H) H := fun b o e => by
  unfold hid at e
  split at e
  · cases e
  · exact e
theorem Ps.pen {p c q : Addr} {H H' : Hp} (h : Ps p c q H H') : PenAt H' p c := h.T.pen.same hid_same
theorem Ps.new {p c q : Addr} {H H' : Hp} (hp : PenAt H p c) (s : Same H H') (n : H q = none) : Ps p c q H H' := by
  have s2 : Same H (hid q H') := fun b o e => hid_at (fun z => by
    rw [z, n] at e
    cases e) (s _ _ e)
  exact ⟨hp.step s2⟩
theorem PenAt.hid {p c q : Addr} {H : Hp} (h : PenAt H p c) (n1 : p ≠ q) (n2 : c ≠ q) : PenAt (hid q H) p c := by
  obtain ⟨ns, a, r, g, m, t, h1, h2, h3⟩ := h.ex
  exact ⟨ns, a, r, g, m, t, hid_at n1 h1, hid_at n2 h2, h3⟩
theorem Ps.ne {p c q : Addr} {H H' : Hp} (h : Ps p c q H H') : p ≠ q ∧ c ≠ q := by
  obtain ⟨o, e⟩ := h.T.pen.some_p
  obtain ⟨u, e'⟩ := h.T.pen.some_c
  have k : ∀ {b : Addr} {o : HO}, Wm.hid q H' b = some o → b ≠ q := fun {b o} e z => by
    unfold Wm.hid at e
    rw [if_pos z] at e
    cases e
  exact ⟨k e, k e'⟩
theorem hid_get2 {q b : Addr} {H : Hp} {o : HO} (e : Wm.hid q H b = some o) : b ≠ q ∧ H b = some o := by
  unfold Wm.hid at e
  split at e
  · cases e
  · rename_i n
    exact ⟨n, e⟩
theorem Ps.step {p c q : Addr} {H H1 H2 : Hp} (h : Ps p c q H H1) (t : PenStep p c H1 H2) : Ps p c q H H2 :=
  ⟨t.pen.hid h.ne.1 h.ne.2, fun b o n e => by
    obtain ⟨k1, k2⟩ := hid_get2 (h.T.keep b o n e)
    exact hid_at k1 (t.keep b o n k2)⟩
theorem Ps.same {p c q : Addr} {H H1 H2 : Hp} (h : Ps p c q H H1) (s : Same H1 H2) : Ps p c q H H2 := h.step (h.pen.step s)
theorem Ps.put {p c q : Addr} {H H1 : Hp} {o : HO} (h : Ps p c q H H1) : Ps p c q H (upd H1 q o) := by
  have hp : PenAt (upd H1 q o) p c := by
    obtain ⟨ns, a, r, g, m, t, h1, h2, h3⟩ := h.pen.ex
    exact ⟨ns, a, r, g, m, t, (upd_ne h.ne.1).trans h1, (upd_ne h.ne.2).trans h2, h3⟩
  exact ⟨hp.hid h.ne.1 h.ne.2, fun b u n e => by
    obtain ⟨k1, k2⟩ := hid_get2 (h.T.keep b u n e)
    exact hid_at k1 ((upd_ne k1).trans k2)⟩
theorem Offs.step {CG p c L : Addr} {rows : List Row} {H H' : Hp} {i : Nat} (h : Offs CG rows H L i) (hp : PenAt H p c) (t : PenStep p c H H') (n : L ≠ p) : Offs CG rows H' L i := by
  obtain ⟨x0, x1, x2, v, os, e, ho, hr, ha, hb⟩ := h.ex
  exact ⟨x0, x1, x2, v, os, t.atd e n, ho.mono fun _ _ z => z.step hp t, hr, ha, hb.step hp t⟩
theorem run_third {o0 o1 o2 : Option Chg} {i : Nat} (h : ∀ w, runC 0 [o0, o1, o2] w = .inl i) (hi : i < 2) (o : Option Chg) (w : Wk) : runC 0 [o0, o1, o] w = .inl i := by
  have h1 := h w
  cases o0 with
  | none =>
    cases h1
    rfl
  | some a =>
    cases o1 with
    | none =>
      cases h1
      rfl
    | some b =>
      cases o2 with
      | none =>
        cases h1
        omega
      | some c => cases h1
theorem Offs.put {CG L : Addr} {rows : List Row} {H : Hp} {i : Nat} {v : V} (h : Offs CG rows H L i) (hi : i < 2) (hv : BadC CG rows H v) : ∃ x0 x1 x2, H L = some (.lst [x0, x1, x2]) ∧ Offs CG rows (upd H L (.lst [x0, x1, v])) L i := by
  obtain ⟨x0, x1, x2, u, os, e, ho, hr, ha, hb⟩ := h.ex
  refine ⟨x0, x1, x2, e, ?_⟩
  match os, ho with
  | [o0, o1, o2], .cons a0 (.cons a1 (.cons a2 .nil)) =>
    refine ⟨x0, x1, v, u, [o0, o1, none], upd_same, .cons (a0.putL e) (.cons (a1.putL e) (.cons (BadC.putL hv e) .nil)), run_third hr hi none, ?_, hb.putL e⟩
    have h01 : i = 0 ∨ i = 1 := by omega
    rcases h01 with rfl | rfl
    · simpa using ha
    · simpa using ha
end Wm
namespace Wm
open PySem L2 PySem.Spec PySem.W PySem.SeqAt
open PyProof.Rows hiding St
section
open ClX
variable {X : Cx} {CX : CXT} {k : Nat} {C p g : Addr} {mc : Value} {sp : Sp} {o e : Expr} {es : List Expr} {m : Str} {pos apos : Pos} {ta : TE} {t : TA} {pl : Sem Bool}
end
section
variable {X : Cx}
end
def spOr2 (sp sp' : Sp) : Sp := fun vs H Q E => sp vs H Q E ∨ sp' vs H Q E
theorem FnOk.or {P : Program} {w : World} {K : PySem.W.Frag} {mg : Str → Option Value} {base : Heap} {CX : CXT} {k : Nat} {f : Addr} {fd : FuncData} {ps : List Str} {sp sp' : Sp} (F : FnOk P w K mg base CX k f fd ps sp) (F' : FnOk P w K mg base CX k f fd ps sp') : FnOk P w K mg base CX k f fd ps (spOr2 sp sp') :=
  ⟨fun vs H Q E h => h.elim (F.len vs H Q E) (F'.len vs H Q E), fun A ou s H as us vs Q E r e b v h => h.elim (F.run A ou s H as us vs Q E r e b v) (F'.run A ou s H as us vs Q E r e b v)⟩
end Wm
namespace Wm
open PySem L2 PySem.Spec
open PyProof.Rows hiding St
section
variable {prog : Program} {w : World} {A : Around} {E : Value → Shared → Prop} {s : Shared} {K : PySem.W.Frag} {x C f : Addr} {ox : Obj} {od : Option Obj}
end
section
variable {σ : St} {H : Hp} {Q : L2.VK}
end
def LChgAt (H : Hp) (c : Chg) (v : V) : Prop := ∃ t, v = .ref t ∧ match c with
  | .lim l => H t = some (.tup [.str "limit", limV l])
  | .fre b => H t = some (.tup [.str "frees", .bl b])
  | .sta n => H t = some (.tup [.str "start", .str n])
  | .gua n g => ∃ gv, H t = some (.tup [.str "guard", .str n, gv]) ∧ G5At H g gv
  | .fld wd p => H t = some (.tup [.str wd, .str p.1, .str p.2])
theorem LChgAt.same {H H' : Hp} {c : Chg} {v : V} (h : LChgAt H c v) (s : Same H H') : LChgAt H' c v := by
  obtain ⟨t, rfl, h⟩ := h
  refine ⟨t, rfl, ?_⟩
  cases c with
  | gua n g =>
    obtain ⟨gv, e, q, rfl, h⟩ := h
    exact ⟨_, s _ _ e, q, rfl, s _ _ h⟩
  | _ => exact s _ _ h
theorem LChgAt.step {p c : Addr} {H H' : Hp} {g : Chg} {v : V} (h : LChgAt H g v) (hp : PenAt H p c) (s : PenStep p c H H') : LChgAt H' g v := by
  obtain ⟨t, rfl, h⟩ := h
  refine ⟨t, rfl, ?_⟩
  cases g with
  | gua n g =>
    obtain ⟨gv, e, q, rfl, h⟩ := h
    exact ⟨_, s.at hp e rfl, q, rfl, s.at hp h rfl⟩
  | _ => exact s.at hp h rfl
def putG (gs : List (Str × G5)) (n : Str) (g : G5) : List (Str × G5) := if n ∈ gs.map (·.1) then gs.map fun x => if x.1 = n then (n, g) else x else gs ++ [(n, g)]
structure EqW (w u : Wk) : Prop where
  st : w.start = u.start
  gs : ∀ n, (w.gs.find? fun x => x.1 == n) = u.gs.find? fun x => x.1 == n
  out : ∀ p, p ∈ w.out ↔ p ∈ u.out
  anew : ∀ p, p ∈ w.anew ↔ p ∈ u.anew
  lim : w.lim = u.lim
  frees : w.frees = u.frees
theorem EqW.refl (w : Wk) : EqW w w := ⟨rfl, fun _ => rfl, fun _ => .rfl, fun _ => .rfl, rfl, rfl⟩
theorem EqW.symm {w u : Wk} (h : EqW w u) : EqW u w := ⟨h.st.symm, fun n => (h.gs n).symm, fun p => (h.out p).symm, fun p => (h.anew p).symm, h.lim.symm, h.frees.symm⟩
theorem EqW.trans {w u z : Wk} (h : EqW w u) (k : EqW u z) : EqW w z := ⟨h.st.trans k.st, fun n => (h.gs n).trans (k.gs n), fun p => (h.out p).trans (k.out p), fun p => (h.anew p).trans (k.anew p), h.lim.trans k.lim, h.frees.trans k.frees⟩
theorem EqW.guard {rows : List Row} {w u : Wk} (h : EqW w u) (n : Str) : guardOf5 rows w n = guardOf5 rows u n := by
  unfold guardOf5
  rw [show (fun o => w.gs.find? fun x => x.1 == o) = (fun o => u.gs.find? fun x => x.1 == o) from funext h.gs]
theorem EqW.sh {w u : Wk} (h : EqW w u) : sh1 w = sh1 u := by
  funext f
  unfold sh1
  simp only [h.out, h.anew]
theorem ea (a : Str) : Str.empty ++ a = a := Str.empty_append a
theorem LChgAt.tx {H H' : Hp} {c : Chg} {v : V} (h : LChgAt H c v) (s : Tx H H') : LChgAt H' c v := by
  obtain ⟨t, rfl, h⟩ := h
  refine ⟨t, rfl, ?_⟩
  cases c with
  | gua n g =>
    obtain ⟨gv, e, q, rfl, h⟩ := h
    exact ⟨_, s _ _ e, q, rfl, s _ _ h⟩
  | _ => exact s _ _ h
theorem ChgAt.hid {CG D : Addr} {H : Hp} {xs : List V} {c : Chg} {v : V} (h : ChgAt CG H c v) (e : H D = some (.lst xs)) : ChgAt CG (hid D H) c v := by
  obtain ⟨t, rfl, h⟩ := h
  have nt : ∀ {b : Addr} {ys : List V}, H b = some (.tup ys) → b ≠ D := fun eb z => by rw [z, e] at eb; cases eb
  refine ⟨t, rfl, ?_⟩
  cases c with
  | gua n g =>
    obtain ⟨gv, et, a, dx, rfl, h⟩ := h
    exact ⟨_, hid_at (nt et) et, a, dx, rfl, hid_at (fun z => by rw [z, e] at h; cases h) h⟩
  | lim l => exact hid_at (nt h) h
  | fre b => exact hid_at (nt h) h
  | sta n => exact hid_at (nt h) h
  | fld wd p => exact hid_at (nt h) h
end Wm
namespace Wm
open PySem L2 PySem.Spec
open PyProof.Rows hiding St
end Wm
namespace Wm
open PySem L2
def sp1 : Str := " "
end Wm
namespace Wm
open PySem L2
end Wm
namespace Wm
open PySem L2
end Wm
namespace Wm
open PySem L2
def PartsAt (H : Hp) (L : Addr) (l : List Str) : Prop := ∃ ys, H L = some (.lst ys) ∧ All2 (fun (p : Str) (v : V) => ∃ a, v = V.ref a ∧ H a = some (.lst ((Txt.split p sp1).map V.str))) l ys
theorem PartsAt.same {H H' : Hp} {L : Addr} {l : List Str} (h : PartsAt H L l) (s : Same H H') : PartsAt H' L l := by
  obtain ⟨ys, e, h⟩ := h
  exact ⟨ys, s _ _ e, h.mono fun p v ⟨a, e1, e2⟩ => ⟨a, e1, s _ _ e2⟩⟩
end Wm
namespace Wm
open PySem L2 PySem.Spec PySem.W PySem.SeqAt
open PyProof.Rows hiding St
structure PrtIn (CG : Addr) (H : Hp) (w : Wk) (d ga oa na : Addr) (gxs oxs nxs : List V) : Prop where
  at_ : H d = some (.dK (pkvs (.str w.start) (.ref ga) (.ref oa) (.ref na) (limV w.lim) w.frees))
  gat : H ga = some (.lst gxs)
  g : All2 (GRowAt CG H) w.gs gxs
  oat : H oa = some (.lst oxs)
  o : All2 (PairAt H) w.out oxs
  nat : H na = some (.lst nxs)
  n : All2 (PairAt H) w.anew nxs
structure PrtFr (H0 : Hp) (d ga oa na : Addr) : Prop where
  fd : H0 d = none
  fg : H0 ga = none
  fo : H0 oa = none
  fn : H0 na = none
  go : ga ≠ oa
  gn : ga ≠ na
  on : oa ≠ na
theorem PrtIn.same {CG : Addr} {H H' : Hp} {w : Wk} {d ga oa na : Addr} {gxs oxs nxs : List V} (i : PrtIn CG H w d ga oa na gxs oxs nxs) (s : Same H H') : PrtIn CG H' w d ga oa na gxs oxs nxs :=
  ⟨s _ _ i.at_, s _ _ i.gat, i.g.mono fun _ _ z => z.same s, s _ _ i.oat, all2_pairs i.o (tx_same s), s _ _ i.nat, all2_pairs i.n (tx_same s)⟩
theorem GRowAt.putA {CG : Addr} {H : Hp} {x : Str × G5} {v : V} {A : Addr} {o u : HO} (h : GRowAt CG H x v) (e : H A = some o) (nt : ∀ xs, o ≠ .tup xs) (ni : ∀ C dx fs, o ≠ .ins C dx fs) : GRowAt CG (upd H A u) x v := by
  obtain ⟨t, gv, rfl, e1, a, dx, rfl, e2⟩ := h
  exact ⟨t, _, rfl, (upd_ne (ne_of e1 e fun z => nt _ z.symm)).trans e1, a, dx, rfl, (upd_ne (ne_of e2 e fun z => ni _ _ _ z.symm)).trans e2⟩
theorem PairAt.putA {H : Hp} {x : Str × Str} {v : V} {A : Addr} {o u : HO} (h : PairAt H x v) (e : H A = some o) (nt : ∀ xs, o ≠ .tup xs) : PairAt (upd H A u) x v := by
  obtain ⟨t, rfl, e1⟩ := h
  exact ⟨t, rfl, (upd_ne (ne_of e1 e fun z => nt _ z.symm)).trans e1⟩
section
variable {CG : Addr} {H H0 : Hp} {w : Wk} {d ga oa na : Addr} {gxs oxs nxs : List V}
theorem PrtIn.putN (i : PrtIn CG H w d ga oa na gxs oxs nxs) (f : PrtFr H0 d ga oa na) {x : Str × Str} {v : V} (hv : PairAt H x v) :
    PrtIn CG (upd H na (.lst (nxs ++ [v]))) { w with anew := w.anew ++ [x] } d ga oa na gxs oxs (nxs ++ [v]) where
  at_ := (upd_ne (ne_of i.at_ i.nat (by intro z; cases z))).trans i.at_
  gat := (upd_ne f.gn).trans i.gat
  g := i.g.mono fun _ _ z => z.putA i.nat (by intro _ z; cases z) (by intro _ _ _ z; cases z)
  oat := (upd_ne f.on).trans i.oat
  o := i.o.mono fun _ _ z => z.putA i.nat (by intro _ z; cases z)
  nat := upd_same
  n := All2.snoc (R := PairAt (upd H na (.lst (nxs ++ [v])))) (hv.putA i.nat (by intro _ z; cases z)) (i.n.mono fun _ _ z => z.putA i.nat (by intro _ z; cases z))
theorem PrtIn.putG (i : PrtIn CG H w d ga oa na gxs oxs nxs) (f : PrtFr H0 d ga oa na) {x : Str × G5} {v : V} (hv : GRowAt CG H x v) :
    PrtIn CG (upd H ga (.lst (gxs ++ [v]))) { w with gs := w.gs ++ [x] } d ga oa na (gxs ++ [v]) oxs nxs where
  at_ := (upd_ne (ne_of i.at_ i.gat (by intro z; cases z))).trans i.at_
  gat := upd_same
  g := All2.snoc (R := GRowAt CG (upd H ga (.lst (gxs ++ [v])))) (hv.putA i.gat (by intro _ z; cases z) (by intro _ _ _ z; cases z)) (i.g.mono fun _ _ z => z.putA i.gat (by intro _ z; cases z) (by intro _ _ _ z; cases z))
  oat := (upd_ne (Ne.symm f.go)).trans i.oat
  o := i.o.mono fun _ _ z => z.putA i.gat (by intro _ z; cases z)
  nat := (upd_ne (Ne.symm f.gn)).trans i.nat
  n := i.n.mono fun _ _ z => z.putA i.gat (by intro _ z; cases z)
theorem PrtIn.putD (i : PrtIn CG H w d ga oa na gxs oxs nxs) (l : Option Nat) (b : Bool) :
    PrtIn CG (upd H d (.dK (pkvs (.str w.start) (.ref ga) (.ref oa) (.ref na) (limV l) b))) { w with lim := l, frees := b } d ga oa na gxs oxs nxs where
  at_ := upd_same
  gat := (upd_ne (ne_of i.gat i.at_ (by intro z; cases z))).trans i.gat
  g := i.g.mono fun _ _ z => z.putA i.at_ (by intro _ z; cases z) (by intro _ _ _ z; cases z)
  oat := (upd_ne (ne_of i.oat i.at_ (by intro z; cases z))).trans i.oat
  o := i.o.mono fun _ _ z => z.putA i.at_ (by intro _ z; cases z)
  nat := (upd_ne (ne_of i.nat i.at_ (by intro z; cases z))).trans i.nat
  n := i.n.mono fun _ _ z => z.putA i.at_ (by intro _ z; cases z)
end
inductive It where
  | lim (n : Nat)
  | lv
  | gu (x : Str × G5)
  | out (p : Str × Str)
  | anew (p : Str × Str)
def appIt (w : Wk) : It → Wk
  | .lim n => { w with lim := some n }
  | .lv => { w with frees := false }
  | .gu x => { w with gs := w.gs ++ [x] }
  | .out p => { w with out := w.out ++ [p] }
  | .anew p => { w with anew := w.anew ++ [p] }
def It.gu? : It → Option (Str × G5) | .gu x => some x | _ => none
def It.out? : It → Option (Str × Str) | .out x => some x | _ => none
def It.anew? : It → Option (Str × Str) | .anew x => some x | _ => none
def It.lim? : It → Option Nat | .lim x => some x | _ => none
def It.lv? : It → Option Unit | .lv => some () | _ => none
structure ItInv (s : Str) (done : List It) (w : Wk) : Prop where
  st : w.start = s
  gs : w.gs = done.filterMap It.gu?
  out : w.out = done.filterMap It.out?
  an : w.anew = done.filterMap It.anew?
  lim : w.lim = (done.filterMap It.lim?).getLast?
  fr : w.frees = (done.filterMap It.lv?).isEmpty
theorem ItInv.nil (s : Str) : ItInv s [] (bareW s) := ⟨rfl, rfl, rfl, rfl, rfl, rfl⟩
theorem ItInv.snoc {s : Str} {done : List It} {w : Wk} {it : It} (h : ItInv s done w) : ItInv s (done ++ [it]) (appIt w it) := by
  obtain ⟨h0, h1, h2, h3, h4, h5⟩ := h
  cases it <;> refine ⟨h0, ?_, ?_, ?_, ?_, ?_⟩ <;> simp [appIt, h1, h2, h3, h4, h5, List.filterMap_append, List.filterMap_cons, It.gu?, It.out?, It.anew?, It.lim?, It.lv?]
def smS (x : Str) : Prop := ∀ c, c ∈ x.cps.toList → c < 16 ^ 8
theorem smS.app {a b : Str} (h : smS a) (k : smS b) : smS (a ++ b) := fun c hc => by
  rw [app_list] at hc
  rcases List.mem_append.mp hc with z | z
  · exact h c z
  · exact k c z
end Wm
namespace Wm
open PySem L2 PySem.Spec PySem.W PySem.SeqAt
open PyProof.Rows hiding St
def OV (p : Addr) (H : Hp) (v : V) : Prop := (∃ x, v = .str x ∧ x.length ≤ sizeLine) ∨ v = .non ∨ (∃ b, v = .bl b) ∨ (∃ i, v = .int i) ∨ (∃ q xs, v = .ref q ∧ H q = some (.lst xs)) ∨ ∃ q kvs, v = .ref q ∧ H q = some (.dK kvs) ∧ q ≠ p
section
variable {p : Addr} {H H' : Hp} {v : V}
theorem OV.any (h : OV p H v) : AnyV H v := by
  rcases h with ⟨x, rfl, hl⟩ | rfl | ⟨b, rfl⟩ | ⟨i, rfl⟩ | ⟨q, n, rfl, e⟩ | ⟨q, k, rfl, e, _⟩
  · trivial
  · trivial
  · trivial
  · trivial
  · exact .inl ⟨_, e⟩
  · exact .inr (.inr ⟨_, e⟩)
theorem OV.same (h : OV p H v) (s : Same H H') : OV p H' v := by
  rcases h with h | h | h | h | ⟨q, n, rfl, e⟩ | ⟨q, k, rfl, e, n⟩
  · exact .inl h
  · exact .inr (.inl h)
  · exact .inr (.inr (.inl h))
  · exact .inr (.inr (.inr (.inl h)))
  · exact .inr (.inr (.inr (.inr (.inl ⟨q, n, rfl, s _ _ e⟩))))
  · exact .inr (.inr (.inr (.inr (.inr ⟨q, k, rfl, s _ _ e, n⟩))))
theorem OV.str (h : OV p H v) : (∃ x, v = .str x ∧ x.length ≤ sizeLine) ∨ (AnyV H v ∧ ∀ x, v ≠ .str x) := by
  rcases id h with ⟨x, rfl, hl⟩ | rfl | ⟨b, rfl⟩ | ⟨i, rfl⟩ | ⟨q, n, rfl, e⟩ | ⟨q, k, rfl, e, _⟩
  · exact .inl ⟨x, rfl, hl⟩
  all_goals exact .inr ⟨h.any, fun x z => by cases z⟩
theorem OV.kn (h : OV p H v) : ∃ b, KnV H v b := by
  rcases h.str with ⟨x, rfl, hl⟩ | ⟨h1, h2⟩
  · exact ⟨_, .inl ⟨x, rfl, hl, rfl⟩⟩
  · exact ⟨false, .inr ⟨h1, h2, rfl⟩⟩
theorem OV.step {c : Addr} (h : OV p H v) (hp : PenAt H p c) (s : PenStep p c H H') : OV p H' v := by
  rcases h with h | h | h | h | ⟨q, n, rfl, e⟩ | ⟨q, k, rfl, e, n⟩
  · exact .inl h
  · exact .inr (.inl h)
  · exact .inr (.inr (.inl h))
  · exact .inr (.inr (.inr (.inl h)))
  · exact .inr (.inr (.inr (.inr (.inl ⟨q, n, rfl, s.at hp e rfl⟩))))
  · exact .inr (.inr (.inr (.inr (.inr ⟨q, k, rfl, s.atd e n, n⟩))))
def SV (H : Hp) (v : V) : Prop := (∃ x, v = .str x ∧ x.length ≤ sizeLine) ∨ (AnyV H v ∧ ∀ x, v ≠ .str x)
theorem SV.same (h : SV H v) (s : Same H H') : SV H' v := h.imp id fun z => ⟨z.1.same s, z.2⟩
theorem SV.kn (h : SV H v) : ∃ b, KnV H v b := by
  rcases h with ⟨x, rfl, hl⟩ | ⟨h1, h2⟩
  · exact ⟨_, .inl ⟨x, rfl, hl, rfl⟩⟩
  · exact ⟨false, .inr ⟨h1, h2, rfl⟩⟩
end
inductive PV where
  | str (x : Str)
  | gu (g : G5)
  | oth
inductive PEn where
  | pr (x y : PV)
  | bad
inductive PL where
  | seq (l : List PEn)
  | oth
def PvAt (p CG : Addr) (H : Hp) : PV → V → Prop
  | .str x, v => v = .str x ∧ x.length ≤ sizeLine
  | .gu g, v => GuAt CG H g v
  | .oth, v => OV p H v ∧ ∀ x, v ≠ .str x
def PeAt (p CG : Addr) (H : Hp) : PEn → V → Prop
  | .pr x y, v => ∃ t a b, v = .ref t ∧ H t = some (.tup [a, b]) ∧ PvAt p CG H x a ∧ PvAt p CG H y b
  | .bad, v => OV p H v ∨ ∃ t xs, v = .ref t ∧ H t = some (.tup xs) ∧ xs.length ≠ 2 ∧ xs.length ≤ 1000
def NolV (p : Addr) (H : Hp) (v : V) : Prop := (∃ x, v = .str x ∧ x.length ≤ sizeLine) ∨ v = .non ∨ (∃ b, v = .bl b) ∨ (∃ i, v = .int i) ∨ ∃ q kvs, v = .ref q ∧ H q = some (.dK kvs) ∧ q ≠ p
def PlAt (K : PySem.W.Frag) (p CG : Addr) (H : Hp) : PL → V → Prop
  | .seq l, v => ∃ a xs, v = .ref a ∧ SqB K H a xs ∧ All2 (PeAt p CG H) l xs ∧ l.length ≤ 1000000
  | .oth, v => NolV p H v
section
variable {p c CG : Addr} {H H' : Hp} {K : PySem.W.Frag}
theorem PvAt.same {x : PV} {v : V} (h : PvAt p CG H x v) (s : Same H H') : PvAt p CG H' x v := by
  cases x with
  | str x => exact h
  | gu g => exact GuAt.same h s
  | oth => exact ⟨h.1.same s, h.2⟩
theorem PeAt.same {x : PEn} {v : V} (h : PeAt p CG H x v) (s : Same H H') : PeAt p CG H' x v := by
  cases x with
  | pr x y =>
    obtain ⟨t, a, b, rfl, e, h1, h2⟩ := h
    exact ⟨t, a, b, rfl, s _ _ e, h1.same s, h2.same s⟩
  | bad =>
    rcases h with h | ⟨t, xs, rfl, e, h⟩
    · exact .inl (h.same s)
    · exact .inr ⟨t, xs, rfl, s _ _ e, h⟩
theorem NolV.same {v : V} (h : NolV p H v) (s : Same H H') : NolV p H' v := by
  rcases h with h | h | h | h | ⟨q, k, rfl, e, n⟩
  · exact .inl h
  · exact .inr (.inl h)
  · exact .inr (.inr (.inl h))
  · exact .inr (.inr (.inr (.inl h)))
  · exact .inr (.inr (.inr (.inr ⟨q, k, rfl, s _ _ e, n⟩)))
theorem PlAt.same {x : PL} {v : V} (h : PlAt K p CG H x v) (s : Same H H') : PlAt K p CG H' x v := by
  cases x with
  | seq l =>
    obtain ⟨a, xs, rfl, h1, h2, h3⟩ := h
    exact ⟨a, xs, rfl, h1.same s, h2.mono fun _ _ z => z.same s, h3⟩
  | oth => exact NolV.same h s
end
structure Pts where
  st : V
  g : PL
  o : PL
  n : PL
  lim : V
  fr : V
structure PtsAt (K : PySem.W.Frag) (p CG : Addr) (H : Hp) (t : Pts) (g o n : V) : Prop where
  st : SV H t.st
  g : PlAt K p CG H t.g g
  o : PlAt K p CG H t.o o
  n : PlAt K p CG H t.n n
  lim : OV p H t.lim
  fr : OV p H t.fr
theorem PtsAt.same {K : PySem.W.Frag} {p CG : Addr} {H H' : Hp} {t : Pts} {g o n : V} (h : PtsAt K p CG H t g o n) (s : Same H H') : PtsAt K p CG H' t g o n := ⟨h.st.same s, h.g.same s, h.o.same s, h.n.same s, h.lim.same s, h.fr.same s⟩
def notGu : PV → Bool
  | .gu _ => false
  | _ => true
theorem PvAt.ov {p CG : Addr} {H : Hp} {x : PV} {v : V} (h : PvAt p CG H x v) (n : notGu x = true) : OV p H v := by
  cases x with
  | str x => exact .inl ⟨x, h.1, h.2⟩
  | gu g => cases n
  | oth => exact h.1
end Wm
namespace Wm
open PySem L2 PySem.Spec PySem.W PySem.SeqAt
open PyProof.Rows hiding St
section
variable {w : Wk} {x h o f k g : Str} {t gs : List Str}
end
end Wm
namespace Wm
open PySem PySem.Spec PySem.W PySem.SeqAt
open AutoSeq1 (wpAny_loadPart')
open MeetsSeq MeetsSeq2 MeetsSeq3 SeqRoads2
def EqKB (prog : Program) (w : World) (A : Around) (P : Shared → Prop) (y x : Value) (c : Bool) : Prop :=
  ∀ s, P s → ∀ (E : Value → Shared → Prop) (Q : Bool → Shared → Prop), (∀ s', P s' → Q c s') → wpAny (model prog w) A (eqBool y x) Q E s
def RcKB (prog : Program) (w : World) (A : Around) (P : Shared → Prop) (y x : Value) (c : Bool) : Prop :=
  ∀ s, P s → ∀ (E : Value → Shared → Prop) (Q : Value → Shared → Prop), (∀ s', P s' → Q (.bool c) s') → wpAny (model prog w) A (richCompare .Eq y x) Q E s
section
variable {prog : Program} {w : World} {A : Around} {P : Shared → Prop}
theorem EqKB.at {y x : Value} {c : Bool} (h : ∀ s, P s → EqAt A s y x c) : EqKB prog w A P y x c := fun s p E Q k => h s p prog w E Q (k s p)
theorem EqKB.refs {l b : Addr} {c : Bool} (hne : c = false → l ≠ b) (h : RcKB prog w A P (.ref l) (.ref b) c) : EqKB prog w A P (.ref l) (.ref b) c := fun s p E Q k => by
  by_cases e : l = b
  · subst e
    cases c with
    | false => exact absurd rfl (hne rfl)
    | true => exact EqAt.same (.ref l) prog w E Q (k s p)
  · unfold eqBool
    refine wpAny_holding (wpAny_ite_split (fun z => absurd (Value.ref.inj (eq_of_beq z)) e) fun _ => ?_)
    exact wpAny_bind (h s p E _ fun s' p' => wpAny_truthy_bool (k s' p'))
theorem tuple_keepB (l b : Addr) (xs ys : Array Value) (bs : Nat → Bool) (n m : Nat) (dd de : Option Addr) (sl sm : Array (Option Value)) : MeetsIn prog w (Builtin.«tuple.__eq__» ⟨[.ref l, .ref b], []⟩)
    (fun A R s => s.heap.get? l = some { cls := .type "tuple", dict := dd, data := .seq xs n, slots := sl } ∧ s.heap.get? b = some { cls := .type "tuple", dict := de, data := .seq ys m, slots := sm } ∧
      P s ∧ (∀ j (h1 : j < xs.size) (h2 : j < ys.size), EqKB prog w A.in1 P xs[j] ys[j] (bs j)) ∧
      (∀ s', xs.size = ys.size → (∀ j, j < xs.size → bs j = true) → P s' → R (.ok (.ret (.bool true))) s') ∧
      ∀ s', (xs.size ≠ ys.size ∨ ∃ j, j < xs.size ∧ j < ys.size ∧ bs j = false) → P s' → R (.ok (.ret (.bool false))) s') :=
  .of_wp fun A R s h => by
    obtain ⟨hp, g, d, tk, os⟩ := s
    obtain ⟨hl, hb, hP, he, hR, hF⟩ := h
    have f2 := AutoSeq1.sub_tuple_tuple
    have lenZ : (xs.toList.zip ys.toList).length = min xs.size ys.size := by simp
    wp_walk using wpAny_loadPart' hl, wpAny_loadPart' hb, wpAny_forIn_list _ (fun rest q s' => q.1 = none ∧ P s' ∧ ∃ i, rest = (xs.toList.zip ys.toList).drop i ∧ i ≤ (xs.toList.zip ys.toList).length ∧ ∀ j, j < i → bs j = true) _
    case turn =>
      rintro ⟨y, x⟩ rest q s' ⟨hq, p', i, hz, hi, hbs⟩
      have hlt : i < (xs.toList.zip ys.toList).length := Nat.lt_of_not_le fun z => by
        rw [List.drop_of_length_le z] at hz
        cases hz
      have h1 : i < xs.size := by omega
      have h2 : i < ys.size := by omega
      rw [List.drop_eq_getElem_cons hlt] at hz
      injection hz with hyx hrest
      obtain rfl : y = xs[i] := by simpa using congrArg Prod.fst hyx
      obtain rfl : x = ys[i] := by simpa using congrArg Prod.snd hyx
      refine wpAny_bind (he i h1 h2 s' p' _ _ fun s2 p2 => ?_)
      cases hc : bs i with
      | true =>
        wp_walk
        exact ⟨rfl, p2, i + 1, hrest, hlt, fun j hj => by
          by_cases e : j = i
          · rw [e, hc]
          · exact hbs j (by omega)⟩
      | false =>
        wp_walk
        exact ⟨_, rfl, hF s2 (.inr ⟨i, h1, h2, hc⟩) p2⟩
    case fin =>
      rintro ⟨q1, q2⟩ s' ⟨hq, p', i, hz, hi, hbs⟩
      simp only at hq
      subst hq
      have hil : i = (xs.toList.zip ys.toList).length := by
        have : ((xs.toList.zip ys.toList).drop i).length = 0 := by rw [← hz]; rfl
        rw [List.length_drop] at this
        omega
      wp_walk
      by_cases hsz : xs.size = ys.size
      · exact ⟨_, rfl, by simpa [Builtin.Tuple.tupleCompareSizes, hsz] using hR s' hsz (fun j hj => hbs j (by omega)) p'⟩
      · exact ⟨_, rfl, by simpa [Builtin.Tuple.tupleCompareSizes, show (xs.size == ys.size) = false from by simp [hsz]] using hF s' (.inl hsz) p'⟩
    case h => exact ⟨rfl, hP, 0, rfl, Nat.zero_le _, fun j h => by omega⟩
theorem rc_tuplesB {l b : Addr} {xs ys : Array Value} (bs : Nat → Bool) (hu : A.units < cLine) {s : Shared} (p : P s) (h1 : s.heap.IsTuple l xs) (h2 : s.heap.IsTuple b ys) (he : ∀ j (h1 : j < xs.size) (h2 : j < ys.size), EqKB prog w A.in1 P xs[j] ys[j] (bs j))
    {E : Value → Shared → Prop} {Q : Value → Shared → Prop} (k : ∀ s', xs.size = ys.size → (∀ j, j < xs.size → bs j = true) → P s' → Q (.bool true) s') (kf : ∀ s', (xs.size ≠ ys.size ∨ ∃ j, j < xs.size ∧ j < ys.size ∧ bs j = false) → P s' → Q (.bool false) s') : wpAny (model prog w) A (richCompare .Eq (.ref l) (.ref b)) Q E s := by
  obtain ⟨⟨c1, dd, da, sl⟩, ho, hc, n, hd⟩ := h1
  obtain ⟨⟨c2, de, db, sm⟩, ho2, hc2, m, hd2⟩ := h2
  simp only at hc hd hc2 hd2
  subst hc hd hc2 hd2
  exact wpAny_richCompare_same_room (T := "tuple") (op := .Eq) ⟨_, ho, rfl⟩ ⟨_, ho2, rfl⟩ F.slot_tuple_eq (call_meetsIn F.slot_tuple_eq ⟨_, ho, rfl⟩ F.entry_tuple_eq (F.args_tuple_eq_2 _ _) (tuple_keepB (P := P) l b xs ys bs n m dd de sl sm)
    ⟨ho, ho2, p, he, fun s' e a p' => show Value.bool true ≠ Value.notImplemented ∧ Q (.bool true) s' from ⟨(fun x => nomatch x), k s' e a p'⟩, fun s' e p' => show Value.bool false ≠ Value.notImplemented ∧ Q (.bool false) s' from ⟨(fun x => nomatch x), kf s' e p'⟩⟩) hu
end
section
variable {prog : Program} {w : World} {A : Around} {P : Shared → Prop} {k₀ : Type} [DecidableEq k₀] {knd : KeyKind prog w k₀}
end
section
open L2
open PyProof.Rows hiding St
def VKB (X : Cx) (A : Around) (H : Hp) (v y : V) (c : Bool) : Prop := ∀ pins σ u z, RelV v u → RelV y z → EqKB X.prog X.w A (PP X pins σ H) u z c
theorem VKB.plain {X : Cx} {A : Around} {H : Hp} {v y : V} {d e : PyData} (hv : Dp X.K H v d) (hy : Dp X.K H y e) (pl : d.plain = true) (pe : e.plain = true) (hu : A.units + d.depth < cLine) (hs : ∀ H' x d, Same H H' → Dp X.K H x d → Dp X.K H' x d) : VKB X A H v y (PyData.eqv d e) := fun pins σ u z ru rz =>
  EqKB.at fun s ⟨H', sm, I⟩ => by
    obtain ⟨as, r1⟩ := Dp.reads I d v u (hs _ _ _ sm hv) ru
    obtain ⟨bs, r2⟩ := Dp.reads I e y z (hs _ _ _ sm hy) rz
    exact eqAt_plain d e A s u z as bs r1 r2 pl pe (by omega)
inductive PB (R : V → V → Bool → Prop) : List V → List V → Bool → Prop
  | nil : PB R [] [] true
  | left {y : V} {ys : List V} : PB R [] (y :: ys) false
  | right {x : V} {xs : List V} : PB R (x :: xs) [] false
  | cons {x y : V} {xs ys : List V} {b c : Bool} : R x y b → PB R xs ys c → PB R (x :: xs) (y :: ys) (b && c)
theorem PB.items {X : Cx} {A : Around} {H : Hp} {pins : List (Addr × Obj)} {σ : St} : ∀ {xs ys : List V} {c : Bool} {us zs : List Value}, PB (fun v y b => VKB X A H v y b) xs ys c → Vals xs us → Vals ys zs → ∃ bs : Nat → Bool, (∀ j (h1 : j < us.length) (h2 : j < zs.length), EqKB X.prog X.w A (PP X pins σ H) us[j] zs[j] (bs j)) ∧
    (c = true ↔ us.length = zs.length ∧ ∀ j, j < us.length → bs j = true) ∧ (c = false → us.length ≠ zs.length ∨ ∃ j, j < us.length ∧ j < zs.length ∧ bs j = false)
  | _, _, _, _, _, .nil, r1, r2 => by
    cases r1
    cases r2
    exact ⟨fun _ => true, fun j h1 _ => absurd h1 (by simp), ⟨fun _ => ⟨rfl, fun _ _ => rfl⟩, fun _ => rfl⟩, fun z => by cases z⟩
  | _, _, _, _, _, .left, r1, r2 => by
    cases r1
    cases r2
    exact ⟨fun _ => true, fun j h1 _ => absurd h1 (by simp), ⟨(fun z => by cases z), (fun z => by simp at z)⟩, fun _ => .inl (by simp)⟩
  | _, _, _, _, _, .right, r1, r2 => by
    cases r1
    cases r2
    exact ⟨fun _ => true, fun j _ h2 => absurd h2 (by simp), ⟨(fun z => by cases z), (fun z => by simp at z)⟩, fun _ => .inl (by simp)⟩
  | _, _, _, _, _, .cons (b := b) (c := c) h t, r1, r2 => by
    cases r1 with
    | cons a1 b1 =>
      cases r2 with
      | cons a2 b2 =>
        obtain ⟨bs, e1, e2, e3⟩ := PB.items (pins := pins) (σ := σ) t b1 b2
        refine ⟨fun j => match j with | 0 => b | j + 1 => bs j, fun j h1 h2 => ?_, ⟨fun z => ?_, fun z => ?_⟩, fun z => ?_⟩
        · cases j with
          | zero => exact h pins σ _ _ a1 a2
          | succ j => exact e1 j (by simpa using h1) (by simpa using h2)
        · rw [Bool.and_eq_true] at z
          obtain ⟨h3, h4⟩ := e2.mp z.2
          refine ⟨by simp [h3], fun j hj => ?_⟩
          cases j with
          | zero => exact z.1
          | succ j => exact h4 j (by simpa using hj)
        · obtain ⟨z1, z2⟩ := z
          rw [Bool.and_eq_true]
          exact ⟨z2 0 (by simp), e2.mpr ⟨by simpa using z1, fun j hj => z2 (j + 1) (by simpa using hj)⟩⟩
        · cases b with
          | false => exact .inr ⟨0, by simp, by simp, rfl⟩
          | true =>
            rcases e3 (by simpa using z) with h | ⟨j, h1, h2, h3⟩
            · exact .inl (by simpa using h)
            · exact .inr ⟨j + 1, by simpa using h1, by simpa using h2, h3⟩
theorem VKB.tuple {X : Cx} {A : Around} {H : Hp} {p q : Addr} {xs ys : List V} {c : Bool} (hp : SqT X.K H p xs) (hq : SqT X.K H q ys) (hu : A.units < cLine) (hne : c = false → p ≠ q) (h : PB (fun v y b => VKB X A.in1 H v y b) xs ys c) : VKB X A H (.ref p) (.ref q) c := fun pins σ u z ru rz => by
  cases ru
  cases rz
  refine EqKB.refs hne ?_
  intro s ⟨H', sm, I⟩ E Q k
  obtain ⟨us, r1, t1, _⟩ := I.tuple (same_seqT sm hp)
  obtain ⟨zs, r2, t2, _⟩ := I.tuple (same_seqT sm hq)
  obtain ⟨bs, e1, e2, e3⟩ := PB.items (pins := pins) (σ := σ) h r1 r2
  refine rc_tuplesB (P := PP X pins σ H) bs hu ⟨H', sm, I⟩ t1 t2 (fun j h1 h2 => e1 j (by simpa using h1) (by simpa using h2)) (fun s' hs ha p' => ?_) (fun s' hb p' => ?_)
  · have e : c = true := e2.mpr ⟨by simpa using hs, fun j hj => ha j (by simpa using hj)⟩
    subst e
    exact k s' p'
  · have e : c = false := by
      refine Bool.eq_false_iff.mpr fun z => ?_
      obtain ⟨h1, h2⟩ := e2.mp z
      rcases hb with hb | ⟨j, j1, j2, j3⟩
      · exact hb (by simpa using h1)
      · rw [h2 j (by simpa using j1)] at j3
        cases j3
    subst e
    exact k s' p'
theorem VKB.own {X : Cx} {A : Around} {H : Hp} {CX : CXT} {C f a b dx : Addr} {fs : List (Str × V)} {fd : FuncData} {ps : List Str} {k : Nat} {sp : Sp} {tb : Value} {c : Bool} (hne : c = false → a ≠ b) (F : FnOk X.prog X.w X.K X.mg X.base CX k f fd ps sp) (ncx : ∀ outer H s e s', CX outer H s (fun _ _ _ => False) e s' → False) (room : Room k A) (hA : A.frames = X.A.frames)
    (hm : Meth X.K C "__eq__" f) (hb : L2.Binds X.K fd ps []) (ha : H a = some (.ins C dx fs)) (ty : ∀ H', Same H H' → TyX X.K H' (.ref b) tb) (n : PySem.W.notFirst X.K C tb = true) (hsp : ∀ H', Same H H' → sp [.ref a, .ref b] H' (fun v H'' => v = .bl c ∧ Same H' H'') (fun _ _ _ => False)) : VKB X A H (.ref a) (.ref b) c := fun pins σ u z ru rz => by
  cases ru
  cases rz
  refine EqKB.refs hne ?_
  intro s ⟨H', sm, I⟩ E Q kk
  obtain ⟨mA, J, _⟩ := ins_get I.hok (sm _ _ ha)
  obtain ⟨od, J, _⟩ := J.look
  obtain ⟨m, hF⟩ := I.fr
  obtain ⟨PP1, Z, hp, _⟩ := kit_of I (show RelV (.ref b) (.ref b) from rfl) (ty H' sm)
  refine PySem.W.cmp_K (op := .Eq) (tb := tb) room.units0 hF I.ok.mod.kin J (Z.ty _ _ I.kIn hp) n hm.at_ hm.fn ?_
  have q := hsp H' sm
  have hl : [Value.ref a, .ref b].length = ps.length := F.len _ _ _ _ q
  have e0 : Env0 X.prog X.w X.K X.mg X.base A X.stack s H' := { I.env0 with frames := hA.trans I.env0.frames }
  refine wpAny_call (codeAny_mono (F.run A X.stack s H' ⟨[.ref a, .ref b], []⟩ [.ref a, .ref b] [.ref a, .ref b] _ _ room e0 (by have := hb s [.ref a, .ref b] I.kIn (by rw [List.append_nil]; exact hl); rwa [List.append_nil] at this) (.cons rfl (.cons rfl .nil)) q) fun r s' hq => ?_)
  match r, hq with
  | .error e, hq => exact (ncx _ _ _ _ _ hq).elim
  | .ok (.ret u), hq =>
    obtain ⟨v, H2, I2, rv, rfl, s2⟩ := I.after hq
    cases rv
    exact kk s' ⟨H2, sm.trans s2, I2⟩
  | .ok .next, hq => exact hq.elim
  | .ok .brk, hq => exact hq.elim
  | .ok .cont, hq => exact hq.elim
end
end Wm
namespace Wm
open PySem L2 PySem.Spec PySem.W PySem.SeqAt
open PyProof.Rows hiding St
def sh (d : PyData) : List Nat := d.shown.cps.toList
def kd : PyData → Nat
  | .none => 0
  | .bool true => 1
  | .bool false => 2
  | .int _ => 3
  | .str _ => 4
  | .list _ => 5
  | .tuple _ => 6
  | .dict _ => 7
def cl (c : Nat) : Nat := if c = 78 then 0 else if c = 84 then 1 else if c = 70 then 2 else if 48 ≤ c ∧ c ≤ 57 then 3 else if c = 39 then 4 else if c = 91 then 5 else if c = 40 then 6 else 8
end Wm
namespace Wm
open PySem L2 PySem.Spec PySem.W PySem.SeqAt
open PyProof.Rows hiding St
end Wm
namespace Wm
open PySem L2 PySem.Spec PySem.W PySem.SeqAt
open PyProof.Rows hiding St
theorem gfs_inj {g g' : G5} (h : gfs g.l = gfs g'.l) : g = g' := by
  obtain ⟨m, b, c, k, e⟩ := g
  obtain ⟨m', b', c', k', e'⟩ := g'
  unfold gfs G5.l at h
  simp only [List.cons.injEq, Prod.mk.injEq, V.str.injEq, true_and, and_true] at h
  obtain ⟨rfl, rfl, rfl, rfl, rfl⟩ := h
  rfl
theorem l_inj {x y : G5} (h : x.l = y.l) : x = y := gfs_inj (by rw [h])
instance : DecidableEq G5 := fun x y => decidable_of_iff (x.l = y.l) ⟨l_inj, fun h => by rw [h]⟩
section
variable {X : Cx} {CX : CXT} {CG CW f : Addr} {fd : FuncData} {ps : List Str}
end
theorem wk_ext {x y : Wk} (h : x.start = y.start ∧ x.gs = y.gs ∧ x.out = y.out ∧ x.anew = y.anew ∧ x.lim = y.lim ∧ x.frees = y.frees) : x = y := by
  obtain ⟨h1, h2, h3, h4, h5, h6⟩ := h
  obtain ⟨a, b, c, d, e, k⟩ := x
  obtain ⟨a', b', c', d', e', k'⟩ := y
  simp only at h1 h2 h3 h4 h5 h6
  subst h1 h2 h3 h4 h5 h6
  rfl
instance : DecidableEq Wk := fun x y => decidable_of_iff (x.start = y.start ∧ x.gs = y.gs ∧ x.out = y.out ∧ x.anew = y.anew ∧ x.lim = y.lim ∧ x.frees = y.frees) ⟨wk_ext, fun h => by rw [h]; exact ⟨rfl, rfl, rfl, rfl, rfl, rfl⟩⟩
section
variable {K : PySem.W.Frag} {H : Hp}
end
section
variable {C D : Addr} {H H' : Hp} {rows : List Row} {xs : List V}
theorem KndAt.butL {r : Row} {v : V} (h : KndAt C H rows r v) (e : H D = some (.lst xs)) (s : But D H H') : KndAt C H' rows r v := by
  obtain ⟨a, dx, bv, ov, la, fa, fvs, rfl, i⟩ := h
  have k : ∀ {b : Addr} {o : HO}, H b = some o → (∀ ys, o ≠ .lst ys) → H' b = some o := fun hb n => s _ _ (fun z => by
    rw [z, e] at hb
    cases hb
    exact n _ rfl) hb
  have t : Tx H H' := fun b ys hb => k hb (fun _ z => by cases z)
  exact ⟨a, dx, bv, ov, la, fa, fvs, rfl, k i.at_ (fun _ z => by cases z), i.bs.tx t, i.own.tx t, t _ _ i.line, t _ _ i.flds, all2_f4 i.f4 t⟩
theorem SchAt.hid {CS S : Addr} (h : SchAt C CS H rows S) (e : H D = some (.lst xs)) : SchAt C CS (Wm.hid D H) rows S := by
  obtain ⟨dx, rv, nv, dv, rvs, kvs, i⟩ := h
  have s : But D H (Wm.hid D H) := fun _ _ n hb => hid_at n hb
  have k : ∀ {b : Addr} {o : HO}, H b = some o → (∀ ys, o ≠ .lst ys) → (Wm.hid D H) b = some o := fun hb n => s _ _ (fun z => by
    rw [z, e] at hb
    cases hb
    exact n _ rfl) hb
  have t : Tx H (Wm.hid D H) := fun b ys hb => k hb (fun _ z => by cases z)
  refine ⟨dx, rv, nv, dv, rvs, kvs, k i.at_ (fun _ z => by cases z), t _ _ i.rws, all2_rows i.rall t, t _ _ i.nms, k i.kn.at_ (fun _ z => by cases z), i.kn.keys, fun r hr => ?_⟩
  obtain ⟨v, h1, h2⟩ := i.kn.knd r hr
  exact ⟨v, h1, h2.butL e s⟩
end
section
variable {C D CW CG : Addr} {H H' : Hp}
end
theorem WkAt.putL {H : Hp} {w : Wk} {W p q t x : Addr} {y : V} {r ys : List V} (h : WkAt H w W p) (e : H q = some (.lst (.ref t :: r))) (et : H t = some (.tup [.ref x, y])) : WkAt (upd H q (.lst ys)) w W p := by
  obtain ⟨gd, ol, al, gvs, ovs, avs, i, n1, n2, n3⟩ := h
  have nl : ∀ {a : Addr} {xs : List V} {l : List (Str × Str)}, H a = some (.lst xs) → All2 (PairAt H) l xs → a ≠ q := fun {a xs l} h1 h2 z => by
    subst z
    rw [e] at h1
    cases h1
    cases h2 with
    | cons h _ =>
      obtain ⟨b, zz, e2⟩ := h
      cases zz
      rw [et] at e2
      cases e2
  have tx : Tx H (upd H q (.lst ys)) := tx_lst e
  exact ⟨gd, ol, al, gvs, ovs, avs, ⟨(upd_ne (ne_of i.at_ e (by intro z; cases z))).trans i.at_, (upd_ne (ne_of i.gat e (by intro z; cases z))).trans i.gat, i.g.mono (fun _ _ z => z.tx tx), (upd_ne (nl i.oat i.o)).trans i.oat, all2_pairs i.o tx, (upd_ne (nl i.aat i.a)).trans i.aat, all2_pairs i.a tx⟩, n1, n2, n3⟩
abbrev Pln := Addr × Addr × List Row × Wk
structure PlnAt (p : Addr) (H : Hp) (d : Pln) : Prop where
  rw : RowsAt H d.1 d.2.2.1
  ok : SchOk d.2.2.1
  wk : WkAt H d.2.2.2 d.2.1 p
  wo : WkOk d.2.2.1 d.2.2.2
theorem PlnAt.same {p : Addr} {H H' : Hp} {d : Pln} (h : PlnAt p H d) (s : Same H H') : PlnAt p H' d := { h with rw := h.rw.same s, wk := h.wk.same s }
theorem PlnAt.step {p c : Addr} {H H' : Hp} {d : Pln} (h : PlnAt p H d) (hp : PenAt H p c) (s : PenStep p c H H') : PlnAt p H' d := { h with rw := h.rw.step hp s, wk := h.wk.step hp s }
def MdAt (C D CW CG : Addr) (H : Hp) (d : Pln) (v : V) : Prop := ∃ S m, v = .ref m ∧ WkrAt CW CG H S d.2.2.2 m ∧ SchAt C D H d.2.2.1 S
theorem MdAt.same {C D CW CG : Addr} {H H' : Hp} {d : Pln} {v : V} (h : MdAt C D CW CG H d v) (s : Same H H') : MdAt C D CW CG H' d v := by
  obtain ⟨S, m, e, h1, h2⟩ := h
  exact ⟨S, m, e, h1.same s, h2.same s⟩
end Wm
namespace Wm
open PySem L2
inductive FV
  | one (o : Option Nat)
  | many (l : List Nat)
structure Tg where
  kind : Str
  tag : Int
  vals : List FV
def FV.nums : FV → List Nat
  | .one none => []
  | .one (some n) => [n]
  | .many l => l
def emptyFV (m : Str) : FV := if m = "one" then .one none else .many []
def memB (rows : List Row) (ks : List (Option Str)) (t : Str) (n : Nat) : Bool := match ks[n]? with
  | some (some k) => decide (t ∈ lineF rows k)
  | _ => false
def fvB (rows : List Row) (ks : List (Option Str)) (m t : Str) : FV → Bool
  | .one o => decide (m = "one") && (match o with | none => true | some n => memB rows ks t n)
  | .many l => !decide (m = "one") && l.all (memB rows ks t)
def MT : Int := 1000000000000000000000000000000
structure TgOk (rows : List Row) (ks : List (Option Str)) (t : Tg) : Prop where
  kd : t.kind ∈ concF rows
  lo : -MT ≤ t.tag
  hi : t.tag ≤ MT
  vs : All2 (fun f v => fvB rows ks f.2.1 f.2.2.1 v = true ∧ v.nums.length ≤ 1600) (fieldsF rows t.kind) t.vals
def heldT (t : Tg) : List Nat := t.vals.flatMap FV.nums
def heldN (ts : List Tg) : Nat := (ts.map fun t => (heldT t).length).sum
def ksOf (ts : List Tg) : List (Option Str) := ts.map fun t => some t.kind
structure GrOk (rows : List Row) (ts : List Tg) : Prop where
  few : ts.length ≤ 400
  ok : ∀ t, t ∈ ts → TgOk rows (ksOf ts) t
  held : heldN ts ≤ 1600
def Frm (S : Addr → Prop) (H H' : Hp) : Prop := ∀ b o, ¬ S b → H b = some o → H' b = some o
def Kps (S : Addr → Prop) (H H' : Hp) : Prop := ∀ b o, S b → H b = some o → H' b = some o
theorem Frm.of {S : Addr → Prop} {H H' : Hp} (s : Same H H') : Frm S H H' := fun b o _ e => s b o e
theorem Kps.of {S : Addr → Prop} {H H' : Hp} (s : Same H H') : Kps S H H' := fun b o _ e => s b o e
theorem Frm.trans {S : Addr → Prop} {H H1 H2 : Hp} (a : Frm S H H1) (b : Frm S H1 H2) : Frm S H H2 := fun c o n e => b c o n (a c o n e)
theorem Kps.trans {S : Addr → Prop} {H H1 H2 : Hp} (a : Kps S H H1) (b : Kps S H1 H2) : Kps S H H2 := fun c o n e => b c o n (a c o n e)
theorem Frm.kps {S F : Addr → Prop} {H H' : Hp} (a : Frm S H H') (d : ∀ b, F b → ¬ S b) : Kps F H H' := fun b o f e => a b o (d b f) e
theorem Frm.same {S : Addr → Prop} {H H1 H2 : Hp} (a : Frm S H H1) (b : Same H1 H2) : Frm S H H2 := a.trans (.of b)
theorem Kps.same {S : Addr → Prop} {H H1 H2 : Hp} (a : Kps S H H1) (b : Same H1 H2) : Kps S H H2 := a.trans (.of b)
theorem Frm.new {S : Addr → Prop} {H0 H H' : Hp} (a : Frm S H H') (s : Same H0 H) (h : ∀ b, S b → H0 b = none) : Same H0 H' := fun b o e => a b o (fun z => by rw [h b z] at e; cases e) (s b o e)
theorem Frm.put {S : Addr → Prop} {H H1 : Hp} {a : Addr} {o : HO} (f : Frm S H H1) (h : S a) : Frm S H (upd H1 a o) := fun b u n e => by
  have nb : b ≠ a := fun z => n (by rw [z]; exact h)
  rw [upd_ne nb]
  exact f b u n e
theorem Frm.putN {S : Addr → Prop} {H H1 : Hp} {a : Addr} {o : HO} (f : Frm S H H1) (h : H a = none) : Frm S H (upd H1 a o) := fun b u n e => by
  rw [upd_ne (ne_of_none e h)]
  exact f b u n e
theorem Frm.step {p c : Addr} {S : Addr → Prop} {H H1 H2 : Hp} (f : Frm S H H1) (s : PenStep p c H1 H2) (h : S p) : Frm S H H2 := fun b o n e => s.keep b o (fun z => n (z ▸ h)) (f b o n e)
theorem PenStep.frm {p c : Addr} {H H1 : Hp} (s : PenStep p c H H1) : Frm (· = p) H H1 := fun b o n e => s.keep b o n e
theorem PenStep.kps {p c : Addr} {F : Addr → Prop} {H H1 : Hp} (s : PenStep p c H H1) (h : ¬ F p) : Kps F H H1 := fun b o f e => s.keep b o (fun z => h (z ▸ f)) e
def Pl : HO → Prop
  | .lst _ => True
  | .tup _ => True
  | .dK _ => True
  | _ => False
def numsV (l : List Nat) : List V := l.map fun (n : Nat) => V.int n
def FvR (F : Addr → Prop) (b : Bool) (H : Hp) : FV → V → Prop
  | .one none, v => v = .non
  | .one (some n), v => v = .int n
  | .many l, v => ∃ a, v = .ref a ∧ F a ∧ (H a = some (.lst (numsV l)) ∨ (b = true ∧ H a = some (.tup (numsV l))))
theorem FvR.kps {F : Addr → Prop} {b : Bool} {H H' : Hp} {x : FV} {v : V} (h : FvR F b H x v) (k : Kps F H H') : FvR F b H' x v := by
  rcases x with (_ | n) | l
  · exact h
  · exact h
  · obtain ⟨a, e, f, h | ⟨hb, h⟩⟩ := h
    · exact ⟨a, e, f, .inl (k _ _ f h)⟩
    · exact ⟨a, e, f, .inr ⟨hb, k _ _ f h⟩⟩
theorem FvR.sub {F G : Addr → Prop} {b : Bool} {H : Hp} {x : FV} {v : V} (h : FvR F b H x v) (k : ∀ a o, F a → H a = some o → Pl o → G a) : FvR G b H x v := by
  rcases x with (_ | n) | l
  · exact h
  · exact h
  · obtain ⟨a, e, f, h | ⟨hb, h⟩⟩ := h
    · exact ⟨a, e, k _ _ f h trivial, .inl h⟩
    · exact ⟨a, e, k _ _ f h trivial, .inr ⟨hb, h⟩⟩
theorem FvR.up {F : Addr → Prop} {b : Bool} {H : Hp} {x : FV} {v : V} (h : FvR F false H x v) : FvR F b H x v := by
  rcases x with (_ | n) | l
  · exact h
  · exact h
  · obtain ⟨a, e, f, h | ⟨hb, h⟩⟩ := h
    · exact ⟨a, e, f, .inl h⟩
    · cases hb
def keysF (fs : List Fld4) : List Key := fs.map fun f => Sum.inr f.1
structure FullD (F : Addr → Prop) (b : Bool) (H : Hp) (fs : List Fld4) (vals : List FV) (d : Addr) (kvs : List (Key × V)) : Prop where
  at_ : H d = some (.dK kvs)
  fp : F d
  keys : kvs.map (·.1) = keysF fs
  vs : All2 (FvR F b H) vals (kvs.map (·.2))
structure SparseD (F : Addr → Prop) (H : Hp) (fs : List Fld4) (vals : List FV) (d : Addr) (kvs : List (Key × V)) : Prop where
  at_ : H d = some (.dK kvs)
  fp : F d
  keys : ∀ kv, kv ∈ kvs → kv.1 ∈ keysF fs
  few : kvs.length ≤ 1000
  nd : (kvs.map (·.1)).Nodup
  vs : All2 (fun (f : Fld4) x => match valV kvs (.inr f.1) with | some v => FvR F true H x v | none => x = emptyFV f.2.1) fs vals
theorem FullD.kps {F : Addr → Prop} {b : Bool} {H H' : Hp} {fs : List Fld4} {vals : List FV} {d : Addr} {kvs : List (Key × V)} (h : FullD F b H fs vals d kvs) (k : Kps F H H') : FullD F b H' fs vals d kvs :=
  ⟨k _ _ h.fp h.at_, h.fp, h.keys, h.vs.mono fun _ _ z => z.kps k⟩
theorem FullD.sub {F G : Addr → Prop} {b : Bool} {H : Hp} {fs : List Fld4} {vals : List FV} {d : Addr} {kvs : List (Key × V)} (h : FullD F b H fs vals d kvs) (k : ∀ a o, F a → H a = some o → Pl o → G a) : FullD G b H fs vals d kvs :=
  ⟨h.at_, k _ _ h.fp h.at_ trivial, h.keys, h.vs.mono fun _ _ z => z.sub k⟩
theorem SparseD.kps {F : Addr → Prop} {H H' : Hp} {fs : List Fld4} {vals : List FV} {d : Addr} {kvs : List (Key × V)} (h : SparseD F H fs vals d kvs) (k : Kps F H H') : SparseD F H' fs vals d kvs :=
  ⟨k _ _ h.fp h.at_, h.fp, h.keys, h.few, h.nd, h.vs.mono fun f x z => by
    revert z
    cases valV kvs (.inr f.1) with
    | none => exact id
    | some v => exact fun z => FvR.kps z k⟩
theorem SparseD.sub {F G : Addr → Prop} {H : Hp} {fs : List Fld4} {vals : List FV} {d : Addr} {kvs : List (Key × V)} (h : SparseD F H fs vals d kvs) (k : ∀ a o, F a → H a = some o → Pl o → G a) : SparseD G H fs vals d kvs :=
  ⟨h.at_, k _ _ h.fp h.at_ trivial, h.keys, h.few, h.nd, h.vs.mono fun f x z => by
    revert z
    cases valV kvs (.inr f.1) with
    | none => exact id
    | some v => exact fun z => FvR.sub z k⟩
def RowR (F : Addr → Prop) (b : Bool) (H : Hp) (rows : List Row) (t : Tg) (v : V) : Prop := ∃ a d kvs, v = .ref a ∧ F a ∧ H a = some (.tup [.str t.kind, .int t.tag, .ref d]) ∧ FullD F b H (fieldsF rows t.kind) t.vals d kvs
def RowS (F : Addr → Prop) (H : Hp) (rows : List Row) (t : Tg) (v : V) : Prop := ∃ a d kvs, v = .ref a ∧ F a ∧ H a = some (.tup [.str t.kind, .int t.tag, .ref d]) ∧ SparseD F H (fieldsF rows t.kind) t.vals d kvs
theorem RowR.kps {F : Addr → Prop} {b : Bool} {H H' : Hp} {rows : List Row} {t : Tg} {v : V} (h : RowR F b H rows t v) (k : Kps F H H') : RowR F b H' rows t v := by
  obtain ⟨a, d, kvs, e, f, ea, h⟩ := h
  exact ⟨a, d, kvs, e, f, k _ _ f ea, h.kps k⟩
theorem RowS.kps {F : Addr → Prop} {H H' : Hp} {rows : List Row} {t : Tg} {v : V} (h : RowS F H rows t v) (k : Kps F H H') : RowS F H' rows t v := by
  obtain ⟨a, d, kvs, e, f, ea, h⟩ := h
  exact ⟨a, d, kvs, e, f, k _ _ f ea, h.kps k⟩
theorem RowR.sub {F G : Addr → Prop} {b : Bool} {H : Hp} {rows : List Row} {t : Tg} {v : V} (h : RowR F b H rows t v) (k : ∀ a o, F a → H a = some o → Pl o → G a) : RowR G b H rows t v := by
  obtain ⟨a, d, kvs, e, f, ea, h⟩ := h
  exact ⟨a, d, kvs, e, k _ _ f ea trivial, ea, h.sub k⟩
theorem RowS.sub {F G : Addr → Prop} {H : Hp} {rows : List Row} {t : Tg} {v : V} (h : RowS F H rows t v) (k : ∀ a o, F a → H a = some o → Pl o → G a) : RowS G H rows t v := by
  obtain ⟨a, d, kvs, e, f, ea, h⟩ := h
  exact ⟨a, d, kvs, e, k _ _ f ea trivial, ea, h.sub k⟩
def ThsR (F : Addr → Prop) (b : Bool) (H : Hp) (rows : List Row) (ts : List Tg) (L : Addr) : Prop := ∃ vs, F L ∧ H L = some (.lst vs) ∧ All2 (RowR F b H rows) ts vs
def ThsS (F : Addr → Prop) (H : Hp) (rows : List Row) (ts : List Tg) (L : Addr) : Prop := ∃ vs, F L ∧ H L = some (.lst vs) ∧ All2 (RowS F H rows) ts vs
theorem ThsR.kps {F : Addr → Prop} {b : Bool} {H H' : Hp} {rows : List Row} {ts : List Tg} {L : Addr} (h : ThsR F b H rows ts L) (k : Kps F H H') : ThsR F b H' rows ts L := by
  obtain ⟨vs, f, e, h⟩ := h
  exact ⟨vs, f, k _ _ f e, h.mono fun _ _ z => z.kps k⟩
theorem ThsS.kps {F : Addr → Prop} {H H' : Hp} {rows : List Row} {ts : List Tg} {L : Addr} (h : ThsS F H rows ts L) (k : Kps F H H') : ThsS F H' rows ts L := by
  obtain ⟨vs, f, e, h⟩ := h
  exact ⟨vs, f, k _ _ f e, h.mono fun _ _ z => z.kps k⟩
theorem ThsR.sub {F G : Addr → Prop} {b : Bool} {H : Hp} {rows : List Row} {ts : List Tg} {L : Addr} (h : ThsR F b H rows ts L) (k : ∀ a o, F a → H a = some o → G a) : ThsR G b H rows ts L := by
  obtain ⟨vs, f, e, h⟩ := h
  exact ⟨vs, k _ _ f e, e, h.mono fun _ _ z => z.sub fun a o f e _ => k a o f e⟩
theorem ThsS.sub {F G : Addr → Prop} {H : Hp} {rows : List Row} {ts : List Tg} {L : Addr} (h : ThsS F H rows ts L) (k : ∀ a o, F a → H a = some o → G a) : ThsS G H rows ts L := by
  obtain ⟨vs, f, e, h⟩ := h
  exact ⟨vs, k _ _ f e, e, h.mono fun _ _ z => z.sub fun a o f e _ => k a o f e⟩
def ThIn (F : Addr → Prop) (H : Hp) (rows : List Row) (t : Tg) (x : Addr × Addr) : Prop := F x.1 ∧ H x.1 = some (.lst [.str t.kind, .int t.tag, .ref x.2]) ∧ ∃ kvs, FullD F false H (fieldsF rows t.kind) t.vals x.2 kvs
def gfsF (S tl : Addr) (root held : Int) : List (Str × V) := [("schema", .ref S), ("things", .ref tl), ("root_thing", .int root), ("held", .int held)]
structure GrIn (C : Addr) (F : Addr → Prop) (H : Hp) (S : Addr) (rows : List Row) (ts : List Tg) (root : Int) (g dx tl : Addr) (ads : List (Addr × Addr)) : Prop where
  at_ : H g = some (.ins C dx (gfsF S tl root (heldN ts)))
  fg : F g
  tl_ : H tl = some (.lst (ads.map fun x => V.ref x.1))
  ft : F tl
  ths : All2 (ThIn (fun a => F a ∧ a ≠ tl) H rows) ts ads
  nda : (ads.map (·.1)).Nodup
  ndd : (ads.map (·.2)).Nodup
def GrAt (C : Addr) (F : Addr → Prop) (H : Hp) (S : Addr) (rows : List Row) (ts : List Tg) (root : Int) (g : Addr) : Prop := ∃ dx tl ads, GrIn C F H S rows ts root g dx tl ads
theorem ThIn.kps {F : Addr → Prop} {H H' : Hp} {rows : List Row} {t : Tg} {x : Addr × Addr} (h : ThIn F H rows t x) (k : Kps F H H') : ThIn F H' rows t x := by
  obtain ⟨f, e, kvs, h⟩ := h
  exact ⟨f, k _ _ f e, kvs, h.kps k⟩
theorem ThIn.sub {F G : Addr → Prop} {H : Hp} {rows : List Row} {t : Tg} {x : Addr × Addr} (h : ThIn F H rows t x) (k : ∀ a o, F a → H a = some o → Pl o → G a) : ThIn G H rows t x := by
  obtain ⟨f, e, kvs, h⟩ := h
  exact ⟨k _ _ f e trivial, e, kvs, h.sub k⟩
section
variable {C : Addr} {F G : Addr → Prop} {H H' : Hp} {S : Addr} {rows : List Row} {ts : List Tg} {root : Int} {g dx tl : Addr} {ads : List (Addr × Addr)}
theorem GrIn.kps (h : GrIn C F H S rows ts root g dx tl ads) (k : Kps F H H') : GrIn C F H' S rows ts root g dx tl ads :=
  ⟨k _ _ h.fg h.at_, h.fg, k _ _ h.ft h.tl_, h.ft, h.ths.mono fun _ _ z => z.kps (fun b o f e => k b o f.1 e), h.nda, h.ndd⟩
theorem GrIn.sub (h : GrIn C F H S rows ts root g dx tl ads) (k : ∀ a o, F a → H a = some o → G a) : GrIn C G H S rows ts root g dx tl ads :=
  ⟨h.at_, k _ _ h.fg h.at_, h.tl_, k _ _ h.ft h.tl_, h.ths.mono fun _ _ z => z.sub (fun a o f e _ => ⟨k a o f.1 e, f.2⟩), h.nda, h.ndd⟩
theorem GrAt.kps (h : GrAt C F H S rows ts root g) (k : Kps F H H') : GrAt C F H' S rows ts root g := by
  obtain ⟨dx, tl, ads, h⟩ := h
  exact ⟨dx, tl, ads, h.kps k⟩
theorem GrAt.sub (h : GrAt C F H S rows ts root g) (k : ∀ a o, F a → H a = some o → G a) : GrAt C G H S rows ts root g := by
  obtain ⟨dx, tl, ads, h⟩ := h
  exact ⟨dx, tl, ads, h.sub k⟩
theorem GrAt.live (h : GrAt C F H S rows ts root g) : GrAt C (fun a => F a ∧ ∃ o, H a = some o) H S rows ts root g := h.sub fun a o f e => ⟨f, o, e⟩
theorem ThsR.live {b : Bool} {L : Addr} (h : ThsR F b H rows ts L) : ThsR (fun a => F a ∧ ∃ o, H a = some o) b H rows ts L := h.sub fun a o f e => ⟨f, o, e⟩
theorem ThsS.live {L : Addr} (h : ThsS F H rows ts L) : ThsS (fun a => F a ∧ ∃ o, H a = some o) H rows ts L := h.sub fun a o f e => ⟨f, o, e⟩
end
def New (H : Hp) : Addr → Prop := fun a => H a = none
theorem Kps.new {F : Addr → Prop} {H H1 : Hp} {a : Addr} {o : HO} (k : Kps F H H1) (h : H a = none) : Kps F H (upd H1 a o) := fun b u f e => by
  rw [upd_ne (ne_of_none e h)]
  exact k b u f e
end Wm
namespace Wm
open PySem PySem.Spec PySem.W PySem.SeqAt
open AutoSeq1 (wpAny_loadPart')
open MeetsSeq MeetsSeq2 MeetsSeq3 SeqRoads2
section
variable {prog : Program} {w : World}
def ItP (prog : Program) (w : World) (A : Around) (s : Shared) (xs ys : Array Value) (e : Nat → Bool) : Prop :=
  ∀ j (h1 : j < xs.size) (h2 : j < ys.size), (∀ i, i < j → e i = true) → EqP prog w A s xs[j] ys[j] (e j)
theorem loop2P (p q : Addr) (xs ys : Array Value) (n m : Nat) (dp dq : Option Addr) (sp sq : Array (Option Value)) (hz : xs.size = ys.size) (e : Nat → Bool) (k : Nat) :
    ∀ i : Nat, xs.size - i = k → MeetsIn prog w (Builtin.«list.__eq__.loop» ⟨[.ref p, .ref q, rawInt i, rawInt 2], []⟩)
      (fun A R s => s.heap.get? p = some { cls := .type "list", dict := dp, data := .seq xs n, slots := sp } ∧ s.heap.get? q = some { cls := .type "list", dict := dq, data := .seq ys m, slots := sq } ∧
        ItP prog w A.in1 s xs ys e ∧ (∀ j, j < i → e j = true) ∧ R (.ok (.ret (.bool (((List.range xs.size).drop i).all e)))) s) := by
  induction k with
  | zero =>
    intro i hk A R s hh
    obtain ⟨hp, g, d, tk, os⟩ := s; obtain ⟨h1, h2, he, hb, hR⟩ := hh
    wp_walk using wpAny_loadPart' h1, wpAny_loadPart' h2
    rw [show xs[((i : Nat) : Int).toNat]? = none from by simp; omega, show ys[((i : Nat) : Int).toNat]? = none from by simp; omega]
    rw [show (List.range xs.size).drop i = [] from by simp; omega] at hR
    wp_walk using wpAny_loadPart' h1, wpAny_loadPart' h2
    show R (.ok (.ret (.bool (xs.size == ys.size)))) _
    rw [hz]
    simpa using hR
  | succ k ih =>
    intro i hk A R s hh
    obtain ⟨hp, g, d, tk, os⟩ := s; obtain ⟨h1, h2, he, hb, hR⟩ := hh
    wp_walk using wpAny_loadPart' h1, wpAny_loadPart' h2
    have j1 : i < xs.size := by omega
    have j2 : i < ys.size := by omega
    rw [show (List.range xs.size).drop i = i :: (List.range xs.size).drop (i + 1) from by simp [List.drop_eq_getElem_cons, j1], List.all_cons] at hR
    have z1 : xs[((i : Nat) : Int).toNat]? = some xs[i] := by simp [j1]
    have z2 : ys[((i : Nat) : Int).toNat]? = some ys[i] := by simp [j2]
    rw [z1, z2]
    refine wpAny_bind (he i j1 j2 hb _ _ ?_)
    cases c : e i with
    | true =>
      rw [c] at hR
      wp_walk
      rw [show ((i : Int) + 1) = ((i + 1 : Nat) : Int) from by push_cast; rfl]
      refine ⟨plainId_quiet plain_eq_loop _, codeAny_builtin entry_eq_loop ?_⟩
      rw [Around.under_plainId plain_eq_loop _]
      refine ih (i + 1) (by omega) A R _ ⟨h1, h2, he, fun j hj => ?_, by simpa using hR⟩
      by_cases z : j = i
      · rw [z, c]
      · exact hb j (by omega)
    | false =>
      rw [c] at hR
      wp_walk using wpAny_loadPart' h1, wpAny_loadPart' h2
      rw [z1, z2]
      wp_walk
      simpa using hR
theorem loop3P (p q : Addr) (xs ys : Array Value) (n m : Nat) (dp dq : Option Addr) (sp sq : Array (Option Value)) (hz : xs.size = ys.size) (e : Nat → Bool) (k : Nat) :
    ∀ i : Nat, xs.size - i = k → MeetsIn prog w (Builtin.«list.__eq__.loop» ⟨[.ref p, .ref q, rawInt i, rawInt 3], []⟩)
      (fun A R s => s.heap.get? p = some { cls := .type "list", dict := dp, data := .seq xs n, slots := sp } ∧ s.heap.get? q = some { cls := .type "list", dict := dq, data := .seq ys m, slots := sq } ∧
        ItP prog w A.in1 s xs ys e ∧ (∀ j, j < i → e j = true) ∧ R (.ok (.ret (.bool (!((List.range xs.size).drop i).all e)))) s) := by
  induction k with
  | zero =>
    intro i hk A R s hh
    obtain ⟨hp, g, d, tk, os⟩ := s; obtain ⟨h1, h2, he, hb, hR⟩ := hh
    wp_walk using wpAny_loadPart' h1, wpAny_loadPart' h2
    rw [show xs[((i : Nat) : Int).toNat]? = none from by simp; omega, show ys[((i : Nat) : Int).toNat]? = none from by simp; omega]
    rw [show (List.range xs.size).drop i = [] from by simp; omega] at hR
    wp_walk using wpAny_loadPart' h1, wpAny_loadPart' h2
    show R (.ok (.ret (.bool (xs.size != ys.size)))) _
    rw [hz]
    simpa using hR
  | succ k ih =>
    intro i hk A R s hh
    obtain ⟨hp, g, d, tk, os⟩ := s; obtain ⟨h1, h2, he, hb, hR⟩ := hh
    wp_walk using wpAny_loadPart' h1, wpAny_loadPart' h2
    have j1 : i < xs.size := by omega
    have j2 : i < ys.size := by omega
    rw [show (List.range xs.size).drop i = i :: (List.range xs.size).drop (i + 1) from by simp [List.drop_eq_getElem_cons, j1], List.all_cons] at hR
    have z1 : xs[((i : Nat) : Int).toNat]? = some xs[i] := by simp [j1]
    have z2 : ys[((i : Nat) : Int).toNat]? = some ys[i] := by simp [j2]
    rw [z1, z2]
    refine wpAny_bind (he i j1 j2 hb _ _ ?_)
    cases c : e i with
    | true =>
      rw [c] at hR
      wp_walk
      rw [show ((i : Int) + 1) = ((i + 1 : Nat) : Int) from by push_cast; rfl]
      refine ⟨plainId_quiet plain_eq_loop _, codeAny_builtin entry_eq_loop ?_⟩
      rw [Around.under_plainId plain_eq_loop _]
      refine ih (i + 1) (by omega) A R _ ⟨h1, h2, he, fun j hj => ?_, by simpa using hR⟩
      by_cases z : j = i
      · rw [z, c]
      · exact hb j (by omega)
    | false =>
      rw [c] at hR
      wp_walk using wpAny_loadPart' h1, wpAny_loadPart' h2
      rw [z1, z2]
      wp_walk
      simpa using hR
theorem eqListP (p q : Addr) (xs ys : Array Value) (n m : Nat) (dp dq : Option Addr) (sp sq : Array (Option Value)) (hz : xs.size = ys.size) (e : Nat → Bool) : MeetsIn prog w (Builtin.«list.__eq__» ⟨[.ref p, .ref q], []⟩)
    (fun A R s => s.heap.get? p = some { cls := .type "list", dict := dp, data := .seq xs n, slots := sp } ∧ s.heap.get? q = some { cls := .type "list", dict := dq, data := .seq ys m, slots := sq } ∧
      ItP prog w A.in1 s xs ys e ∧ R (.ok (.ret (.bool ((List.range xs.size).all e)))) s) := by
  intro A R s hh
  obtain ⟨hp, g, d, tk, os⟩ := s; obtain ⟨h1, h2, he, hR⟩ := hh
  have f3 := AutoSeq1.sub_list_list
  have zz : ¬ (xs.size != ys.size) = true := by simp [hz]
  wp_walk using wpAny_loadPart' h1, wpAny_loadPart' h2
  refine ⟨plainId_quiet plain_eq_loop _, codeAny_builtin entry_eq_loop ?_⟩
  rw [Around.under_plainId plain_eq_loop _]
  exact loop2P p q xs ys n m dp dq sp sq hz e _ 0 rfl A R _ ⟨h1, h2, he, fun j hj => absurd hj (Nat.not_lt_zero j), by simpa using hR⟩
theorem neListP (p q : Addr) (xs ys : Array Value) (n m : Nat) (dp dq : Option Addr) (sp sq : Array (Option Value)) (hz : xs.size = ys.size) (e : Nat → Bool) : MeetsIn prog w (Builtin.«list.__ne__» ⟨[.ref p, .ref q], []⟩)
    (fun A R s => s.heap.get? p = some { cls := .type "list", dict := dp, data := .seq xs n, slots := sp } ∧ s.heap.get? q = some { cls := .type "list", dict := dq, data := .seq ys m, slots := sq } ∧
      ItP prog w A.in1 s xs ys e ∧ R (.ok (.ret (.bool (!(List.range xs.size).all e)))) s) := by
  intro A R s hh
  obtain ⟨hp, g, d, tk, os⟩ := s; obtain ⟨h1, h2, he, hR⟩ := hh
  have f3 := AutoSeq1.sub_list_list
  have zz : ¬ (xs.size != ys.size) = true := by simp [hz]
  wp_walk using wpAny_loadPart' h1, wpAny_loadPart' h2
  refine ⟨plainId_quiet plain_eq_loop _, codeAny_builtin entry_eq_loop ?_⟩
  rw [Around.under_plainId plain_eq_loop _]
  exact loop3P p q xs ys n m dp dq sp sq hz e _ 0 rfl A R _ ⟨h1, h2, he, fun j hj => absurd hj (Nat.not_lt_zero j), by simpa using hR⟩
theorem eqTupP (p q : Addr) (xs ys : Array Value) (n m : Nat) (dp dq : Option Addr) (sp sq : Array (Option Value)) (e : Nat → Bool) : MeetsIn prog w (Builtin.«tuple.__eq__» ⟨[.ref p, .ref q], []⟩)
    (fun A R s => s.heap.get? p = some { cls := .type "tuple", dict := dp, data := .seq xs n, slots := sp } ∧ s.heap.get? q = some { cls := .type "tuple", dict := dq, data := .seq ys m, slots := sq } ∧
      ItP prog w A.in1 s xs ys e ∧ R (.ok (.ret (.bool ((List.range (min xs.size ys.size)).all e && xs.size == ys.size)))) s) :=
  .of_wp fun A R s hh => by
    obtain ⟨hp, g, d, tk, os⟩ := s
    obtain ⟨h1, h2, he, hR⟩ := hh
    have f2 := AutoSeq1.sub_tuple_tuple
    have lenZ : (xs.toList.zip ys.toList).length = min xs.size ys.size := by simp
    wp_walk using wpAny_loadPart' h1, wpAny_loadPart' h2, wpAny_forIn_list _ (fun rest b s' => b.1 = none ∧ s' = ⟨hp, g, d, tk, os⟩ ∧ ∃ i, rest = (xs.toList.zip ys.toList).drop i ∧ (∀ j, j < i → e j = true) ∧
      R (.ok (.ret (.bool (((List.range (min xs.size ys.size)).drop i).all e && xs.size == ys.size)))) ⟨hp, g, d, tk, os⟩) _
    case turn =>
      rintro ⟨y, x⟩ rest b s' ⟨hq, rfl, i, hz, hb, hR⟩
      have lt : i < (xs.toList.zip ys.toList).length := Nat.lt_of_not_le fun z => by
        rw [List.drop_of_length_le z] at hz
        cases hz
      have i1 : i < xs.size := by omega
      have i2 : i < ys.size := by omega
      rw [List.drop_eq_getElem_cons lt] at hz
      injection hz with hyx hrest
      obtain rfl : y = xs[i] := by simpa using congrArg Prod.fst hyx
      obtain rfl : x = ys[i] := by simpa using congrArg Prod.snd hyx
      rw [show (List.range (min xs.size ys.size)).drop i = i :: (List.range (min xs.size ys.size)).drop (i + 1) from by simp [List.drop_eq_getElem_cons, show i < min xs.size ys.size from lenZ ▸ lt], List.all_cons] at hR
      refine wpAny_bind (he i i1 i2 hb _ _ ?_)
      cases c : e i with
      | true =>
        rw [c] at hR
        wp_walk
        refine ⟨rfl, rfl, i + 1, hrest, fun j hj => ?_, by simpa using hR⟩
        by_cases z : j = i
        · rw [z, c]
        · exact hb j (by omega)
      | false =>
        rw [c] at hR
        wp_walk
        exact ⟨_, rfl, by simpa using hR⟩
    case fin =>
      rintro ⟨b1, b2⟩ s' ⟨hq, rfl, i, hz, hb, hR⟩
      simp only at hq
      subst hq
      have ge : min xs.size ys.size ≤ i := Nat.le_of_not_lt fun z => by
        rw [List.drop_eq_getElem_cons (show i < (xs.toList.zip ys.toList).length by omega)] at hz
        cases hz
      rw [List.drop_of_length_le (by simpa using ge)] at hR
      wp_walk
      exact ⟨_, rfl, by simpa [Builtin.Tuple.tupleCompareSizes] using hR⟩
    case h => exact ⟨rfl, rfl, 0, rfl, fun j hj => absurd hj (Nat.not_lt_zero j), by simpa using hR⟩
theorem neTupP (p q : Addr) (xs ys : Array Value) (n m : Nat) (dp dq : Option Addr) (sp sq : Array (Option Value)) (e : Nat → Bool) : MeetsIn prog w (Builtin.«tuple.__ne__» ⟨[.ref p, .ref q], []⟩)
    (fun A R s => s.heap.get? p = some { cls := .type "tuple", dict := dp, data := .seq xs n, slots := sp } ∧ s.heap.get? q = some { cls := .type "tuple", dict := dq, data := .seq ys m, slots := sq } ∧
      ItP prog w A.in1 s xs ys e ∧ R (.ok (.ret (.bool (!((List.range (min xs.size ys.size)).all e && xs.size == ys.size))))) s) :=
  .of_wp fun A R s hh => by
    obtain ⟨hp, g, d, tk, os⟩ := s
    obtain ⟨h1, h2, he, hR⟩ := hh
    have f2 := AutoSeq1.sub_tuple_tuple
    have lenZ : (xs.toList.zip ys.toList).length = min xs.size ys.size := by simp
    wp_walk using wpAny_loadPart' h1, wpAny_loadPart' h2, wpAny_forIn_list _ (fun rest b s' => b.1 = none ∧ s' = ⟨hp, g, d, tk, os⟩ ∧ ∃ i, rest = (xs.toList.zip ys.toList).drop i ∧ (∀ j, j < i → e j = true) ∧
      R (.ok (.ret (.bool (!(((List.range (min xs.size ys.size)).drop i).all e && xs.size == ys.size))))) ⟨hp, g, d, tk, os⟩) _
    case turn =>
      rintro ⟨y, x⟩ rest b s' ⟨hq, rfl, i, hz, hb, hR⟩
      have lt : i < (xs.toList.zip ys.toList).length := Nat.lt_of_not_le fun z => by
        rw [List.drop_of_length_le z] at hz
        cases hz
      have i1 : i < xs.size := by omega
      have i2 : i < ys.size := by omega
      rw [List.drop_eq_getElem_cons lt] at hz
      injection hz with hyx hrest
      obtain rfl : y = xs[i] := by simpa using congrArg Prod.fst hyx
      obtain rfl : x = ys[i] := by simpa using congrArg Prod.snd hyx
      rw [show (List.range (min xs.size ys.size)).drop i = i :: (List.range (min xs.size ys.size)).drop (i + 1) from by simp [List.drop_eq_getElem_cons, show i < min xs.size ys.size from lenZ ▸ lt], List.all_cons] at hR
      refine wpAny_bind (he i i1 i2 hb _ _ ?_)
      cases c : e i with
      | true =>
        rw [c] at hR
        wp_walk
        refine ⟨rfl, rfl, i + 1, hrest, fun j hj => ?_, by simpa using hR⟩
        by_cases z : j = i
        · rw [z, c]
        · exact hb j (by omega)
      | false =>
        rw [c] at hR
        wp_walk
        exact ⟨_, rfl, by simpa using hR⟩
    case fin =>
      rintro ⟨b1, b2⟩ s' ⟨hq, rfl, i, hz, hb, hR⟩
      simp only at hq
      subst hq
      have ge : min xs.size ys.size ≤ i := Nat.le_of_not_lt fun z => by
        rw [List.drop_eq_getElem_cons (show i < (xs.toList.zip ys.toList).length by omega)] at hz
        cases hz
      rw [List.drop_of_length_le (by simpa using ge)] at hR
      wp_walk
      exact ⟨_, rfl, by simpa [Builtin.Tuple.tupleCompareSizes, bne] using hR⟩
    case h => exact ⟨rfl, rfl, 0, rfl, fun j hj => absurd hj (Nat.not_lt_zero j), by simpa using hR⟩
theorem rcListP {A : Around} {s : Shared} {p q : Addr} {xs ys : Array Value} {e : Nat → Bool} (hp : s.heap.IsList p xs) (hq : s.heap.IsList q ys) (hz : xs.size = ys.size) (hu : A.units < cLine) (he : ItP prog w A.in1 s xs ys e) (E Q : Value → Shared → Prop) (h : Q (.bool ((List.range xs.size).all e)) s) :
    wpAny (model prog w) A (richCompare .Eq (.ref p) (.ref q)) Q E s := by
  obtain ⟨⟨c1, d1, a1, s1⟩, o1, e1, n, f1⟩ := id hp
  obtain ⟨⟨c2, d2, a2, s2⟩, o2, e2, m, f2⟩ := id hq
  simp only at e1 f1 e2 f2
  subst e1 f1 e2 f2
  have ta : s.TypeIs (.ref p) "list" := ⟨_, o1, rfl⟩
  exact wpAny_richCompare_same_room (op := .Eq) ta ⟨_, o2, rfl⟩ F.slot_list_eq (call_meetsIn F.slot_list_eq ta F.entry_list_eq (F.args_list_eq_2 _ _) (eqListP p q xs ys n m d1 d2 s1 s2 hz e)
    ⟨o1, o2, he, show Value.bool _ ≠ Value.notImplemented ∧ Q (.bool _) s from ⟨(fun x => nomatch x), h⟩⟩) hu
theorem rnListP {A : Around} {s : Shared} {p q : Addr} {xs ys : Array Value} {e : Nat → Bool} (hp : s.heap.IsList p xs) (hq : s.heap.IsList q ys) (hz : xs.size = ys.size) (hu : A.units < cLine) (he : ItP prog w A.in1 s xs ys e) (E Q : Value → Shared → Prop) (h : Q (.bool (!(List.range xs.size).all e)) s) :
    wpAny (model prog w) A (richCompare .NotEq (.ref p) (.ref q)) Q E s := by
  obtain ⟨⟨c1, d1, a1, s1⟩, o1, e1, n, f1⟩ := id hp
  obtain ⟨⟨c2, d2, a2, s2⟩, o2, e2, m, f2⟩ := id hq
  simp only at e1 f1 e2 f2
  subst e1 f1 e2 f2
  have ta : s.TypeIs (.ref p) "list" := ⟨_, o1, rfl⟩
  exact wpAny_richCompare_same_room (op := .NotEq) ta ⟨_, o2, rfl⟩ F.slot_list_ne (call_meetsIn F.slot_list_ne ta F.entry_list_ne (F.args_list_ne_2 _ _) (neListP p q xs ys n m d1 d2 s1 s2 hz e)
    ⟨o1, o2, he, show Value.bool _ ≠ Value.notImplemented ∧ Q (.bool _) s from ⟨(fun x => nomatch x), h⟩⟩) hu
theorem rcTupP {A : Around} {s : Shared} {p q : Addr} {xs ys : Array Value} {e : Nat → Bool} (hp : s.heap.IsTuple p xs) (hq : s.heap.IsTuple q ys) (hu : A.units < cLine) (he : ItP prog w A.in1 s xs ys e) (E Q : Value → Shared → Prop) (h : Q (.bool ((List.range (min xs.size ys.size)).all e && xs.size == ys.size)) s) :
    wpAny (model prog w) A (richCompare .Eq (.ref p) (.ref q)) Q E s := by
  obtain ⟨⟨c1, d1, a1, s1⟩, o1, e1, n, f1⟩ := id hp
  obtain ⟨⟨c2, d2, a2, s2⟩, o2, e2, m, f2⟩ := id hq
  simp only at e1 f1 e2 f2
  subst e1 f1 e2 f2
  have ta : s.TypeIs (.ref p) "tuple" := ⟨_, o1, rfl⟩
  exact wpAny_richCompare_same_room (op := .Eq) ta ⟨_, o2, rfl⟩ F.slot_tuple_eq (call_meetsIn F.slot_tuple_eq ta F.entry_tuple_eq (F.args_tuple_eq_2 _ _) (eqTupP p q xs ys n m d1 d2 s1 s2 e)
    ⟨o1, o2, he, show Value.bool _ ≠ Value.notImplemented ∧ Q (.bool _) s from ⟨(fun x => nomatch x), h⟩⟩) hu
theorem rnTupP {A : Around} {s : Shared} {p q : Addr} {xs ys : Array Value} {e : Nat → Bool} (hp : s.heap.IsTuple p xs) (hq : s.heap.IsTuple q ys) (hu : A.units < cLine) (he : ItP prog w A.in1 s xs ys e) (E Q : Value → Shared → Prop) (h : Q (.bool (!((List.range (min xs.size ys.size)).all e && xs.size == ys.size))) s) :
    wpAny (model prog w) A (richCompare .NotEq (.ref p) (.ref q)) Q E s := by
  obtain ⟨⟨c1, d1, a1, s1⟩, o1, e1, n, f1⟩ := id hp
  obtain ⟨⟨c2, d2, a2, s2⟩, o2, e2, m, f2⟩ := id hq
  simp only at e1 f1 e2 f2
  subst e1 f1 e2 f2
  have ta : s.TypeIs (.ref p) "tuple" := ⟨_, o1, rfl⟩
  exact wpAny_richCompare_same_room (op := .NotEq) ta ⟨_, o2, rfl⟩ F.slot_tuple_ne (call_meetsIn F.slot_tuple_ne ta F.entry_tuple_ne (F.args_tuple_ne_2 _ _) (neTupP p q xs ys n m d1 d2 s1 s2 e)
    ⟨o1, o2, he, show Value.bool _ ≠ Value.notImplemented ∧ Q (.bool _) s from ⟨(fun x => nomatch x), h⟩⟩) hu
end
end Wm
namespace Wm
open PySem PySem.Spec PySem.W PySem.SeqAt
open L2
open PyProof.Rows hiding St
def EqH (X : Cx) (A : Around) (H : Hp) (x y : V) (c : Bool) : Prop := ∀ pins σ s u z, Inv X pins σ H s → RelV x u → RelV y z → EqP X.prog X.w A s u z c
inductive QB (R : V → V → Bool → Prop) : List V → List V → Bool → Prop
  | nil : QB R [] [] true
  | left {y : V} {ys : List V} : QB R [] (y :: ys) false
  | right {x : V} {xs : List V} : QB R (x :: xs) [] false
  | stop {x y : V} {xs ys : List V} : R x y false → QB R (x :: xs) (y :: ys) false
  | cons {x y : V} {xs ys : List V} {c : Bool} : R x y true → QB R xs ys c → QB R (x :: xs) (y :: ys) c
theorem QB.mono {R S : V → V → Bool → Prop} (m : ∀ x y c, R x y c → S x y c) : ∀ {xs ys : List V} {c : Bool}, QB R xs ys c → QB S xs ys c
  | _, _, _, .nil => .nil
  | _, _, _, .left => .left
  | _, _, _, .right => .right
  | _, _, _, .stop h => .stop (m _ _ _ h)
  | _, _, _, .cons h t => .cons (m _ _ _ h) (t.mono m)
theorem QB.all {R : V → V → Bool → Prop} : ∀ {xs ys : List V}, All2 (fun x y => R x y true) xs ys → QB R xs ys true
  | _, _, .nil => .nil
  | _, _, .cons h t => .cons h (QB.all t)
theorem range_all_succ (n : Nat) (e : Nat → Bool) : (List.range (n + 1)).all e = (e 0 && (List.range n).all fun j => e (j + 1)) := by
  rw [Bool.eq_iff_iff, Bool.and_eq_true, List.all_eq_true, List.all_eq_true]
  refine ⟨fun h => ⟨h 0 (by simp), fun j hj => h (j + 1) (by simp at hj ⊢; omega)⟩, fun h j hj => ?_⟩
  cases j with
  | zero => exact h.1
  | succ j => exact h.2 j (by simp at hj ⊢; omega)
theorem QB.items {X : Cx} {A : Around} {H : Hp} {pins : List (Addr × Obj)} {σ : St} {s : Shared} (I : Inv X pins σ H s) : ∀ {xs ys : List V} {c : Bool} {us zs : List Value}, QB (EqH X A H) xs ys c → Vals xs us → Vals ys zs →
    ∃ e : Nat → Bool, (∀ j (h1 : j < us.length) (h2 : j < zs.length), (∀ i, i < j → e i = true) → EqP X.prog X.w A s us[j] zs[j] (e j)) ∧ c = ((List.range (min us.length zs.length)).all e && us.length == zs.length)
  | _, _, _, _, _, .nil, r1, r2 => by
    cases r1
    cases r2
    exact ⟨fun _ => true, fun j h1 _ _ => absurd h1 (by simp), by simp⟩
  | _, _, _, _, _, .left, r1, r2 => by
    cases r1
    cases r2
    exact ⟨fun _ => true, fun j h1 _ _ => absurd h1 (by simp), by simp⟩
  | _, _, _, _, _, .right, r1, r2 => by
    cases r1
    cases r2
    exact ⟨fun _ => true, fun j _ h2 _ => absurd h2 (by simp), by simp⟩
  | _, _, _, _, _, .stop h, r1, r2 => by
    cases r1 with
    | cons a1 b1 =>
      cases r2 with
      | cons a2 b2 =>
        refine ⟨fun _ => false, fun j h1 h2 hi => ?_, ?_⟩
        · cases j with
          | zero => exact h pins σ s _ _ I a1 a2
          | succ j => exact absurd (hi 0 (Nat.succ_pos j)) (by simp)
        · rw [List.length_cons, List.length_cons, Nat.succ_min_succ, range_all_succ]
          simp
  | _, _, _, _, _, .cons h t, r1, r2 => by
    cases r1 with
    | cons a1 b1 =>
      cases r2 with
      | cons a2 b2 =>
        obtain ⟨e, e1, e2⟩ := QB.items I t b1 b2
        refine ⟨fun j => match j with | 0 => true | j + 1 => e j, fun j h1 h2 hi => ?_, ?_⟩
        · cases j with
          | zero => exact h pins σ s _ _ I a1 a2
          | succ j => exact e1 j (by simpa using h1) (by simpa using h2) fun i hij => hi (i + 1) (by omega)
        · rw [List.length_cons, List.length_cons, Nat.succ_min_succ, range_all_succ, e2]
          simp
inductive RcH (X : Cx) (A : Around) (H : Hp) : V → V → Bool → Prop
  | lst {p q : Addr} {xs ys : List V} {c : Bool} : SqL X.K H p xs → SqL X.K H q ys → xs.length = ys.length → QB (EqH X A.in1 H) xs ys c → RcH X A H (.ref p) (.ref q) c
  | lstL {p q : Addr} {xs ys : List V} : SqL X.K H p xs → SqL X.K H q ys → xs.length ≠ ys.length → RcH X A H (.ref p) (.ref q) false
  | tup {p q : Addr} {xs ys : List V} {c : Bool} : SqT X.K H p xs → SqT X.K H q ys → QB (EqH X A.in1 H) xs ys c → RcH X A H (.ref p) (.ref q) c
theorem RcH.eq {X : Cx} {A : Around} {H : Hp} {x y : V} {c : Bool} (h : RcH X A H x y c) (hu : A.units < cLine) {pins : List (Addr × Obj)} {σ : St} {s : Shared} {u z : Value} (I : Inv X pins σ H s) (rx : RelV x u) (ry : RelV y z) (E Q : Value → Shared → Prop) (k : Q (.bool c) s) :
    wpAny (model X.prog X.w) A (richCompare .Eq u z) Q E s := by
  cases h with
  | lst hp hq hz hi =>
    cases rx
    cases ry
    obtain ⟨us, r1, p1, _⟩ := I.list hp
    obtain ⟨zs, r2, p2, _⟩ := I.list hq
    obtain ⟨e, e1, e2⟩ := hi.items I r1 r2
    have hl : us.length = zs.length := by rw [← r1.length, ← r2.length, hz]
    refine rcListP (e := e) p1.isList p2.isList (by simpa using hl) hu (fun j h1 h2 hb => by simpa using e1 j (by simpa using h1) (by simpa using h2) hb) E Q ?_
    rw [hl, Nat.min_self, beq_self_eq_true, Bool.and_true] at e2
    rw [List.size_toArray, hl, ← e2]
    exact k
  | lstL hp hq hz =>
    cases rx
    cases ry
    obtain ⟨us, r1, p1, _⟩ := I.list hp
    obtain ⟨zs, r2, p2, _⟩ := I.list hq
    exact RcAt.lists_lengths p1.isList p2.isList (by
      rw [List.size_toArray, List.size_toArray, ← r1.length, ← r2.length]
      simpa using hz) hu X.prog X.w E Q k
  | tup hp hq hi =>
    cases rx
    cases ry
    obtain ⟨us, r1, p1, _⟩ := I.tuple hp
    obtain ⟨zs, r2, p2, _⟩ := I.tuple hq
    obtain ⟨e, e1, e2⟩ := hi.items I r1 r2
    refine rcTupP (e := e) p1 p2 hu (fun j h1 h2 hb => by simpa using e1 j (by simpa using h1) (by simpa using h2) hb) E Q ?_
    rw [List.size_toArray, List.size_toArray, ← e2]
    exact k
theorem RcH.ne {X : Cx} {A : Around} {H : Hp} {x y : V} {c : Bool} (h : RcH X A H x y c) (hu : A.units < cLine) {pins : List (Addr × Obj)} {σ : St} {s : Shared} {u z : Value} (I : Inv X pins σ H s) (rx : RelV x u) (ry : RelV y z) (E Q : Value → Shared → Prop) (k : Q (.bool (!c)) s) :
    wpAny (model X.prog X.w) A (richCompare .NotEq u z) Q E s := by
  cases h with
  | lst hp hq hz hi =>
    cases rx
    cases ry
    obtain ⟨us, r1, p1, _⟩ := I.list hp
    obtain ⟨zs, r2, p2, _⟩ := I.list hq
    obtain ⟨e, e1, e2⟩ := hi.items I r1 r2
    have hl : us.length = zs.length := by rw [← r1.length, ← r2.length, hz]
    refine rnListP (e := e) p1.isList p2.isList (by simpa using hl) hu (fun j h1 h2 hb => by simpa using e1 j (by simpa using h1) (by simpa using h2) hb) E Q ?_
    rw [hl, Nat.min_self, beq_self_eq_true, Bool.and_true] at e2
    rw [List.size_toArray, hl, ← e2]
    exact k
  | lstL hp hq hz =>
    cases rx
    cases ry
    obtain ⟨us, r1, p1, _⟩ := I.list hp
    obtain ⟨zs, r2, p2, _⟩ := I.list hq
    exact RcNeAt.lists_lengths p1.isList p2.isList (by
      rw [List.size_toArray, List.size_toArray, ← r1.length, ← r2.length]
      simpa using hz) hu X.prog X.w E Q k
  | tup hp hq hi =>
    cases rx
    cases ry
    obtain ⟨us, r1, p1, _⟩ := I.tuple hp
    obtain ⟨zs, r2, p2, _⟩ := I.tuple hq
    obtain ⟨e, e1, e2⟩ := hi.items I r1 r2
    refine rnTupP (e := e) p1 p2 hu (fun j h1 h2 hb => by simpa using e1 j (by simpa using h1) (by simpa using h2) hb) E Q ?_
    rw [List.size_toArray, List.size_toArray, ← e2]
    exact k
theorem RcH.refs {X : Cx} {A : Around} {H : Hp} {x y : V} {c : Bool} (h : RcH X A H x y c) : ∃ p q, x = .ref p ∧ y = .ref q := by
  cases h <;> exact ⟨_, _, rfl, rfl⟩
theorem RcH.eqH {X : Cx} {A : Around} {H : Hp} {x y : V} {c : Bool} (h : RcH X A H x y c) (hu : A.units < cLine) (hne : c = false → x ≠ y) : EqH X A H x y c := by
  intro pins σ s u z I rx ry
  obtain ⟨p, q, rfl, rfl⟩ := h.refs
  by_cases e : p = q
  · subst e
    cases rx
    cases ry
    cases c with
    | false => exact absurd rfl (hne rfl)
    | true => exact (SeqAt.EqAt.same _).eqP
  · have z : ∀ (E Q : Value → Shared → Prop), Q (.bool c) s → wpAny (model X.prog X.w) A (richCompare .Eq u z) Q E s := fun E Q k => h.eq hu I rx ry E Q k
    cases rx
    cases ry
    exact SeqAt.eqP_refs e z
theorem EqH.refl {X : Cx} {A : Around} {H : Hp} {p : Addr} : EqH X A H (.ref p) (.ref p) true := fun pins σ s u z I rx ry => by
  cases rx
  cases ry
  exact (SeqAt.EqAt.same _).eqP
theorem EqH.plain {X : Cx} {A : Around} {H : Hp} {x y : V} {d e : PyData} (hv : Dp X.K H x d) (hy : Dp X.K H y e) (pl : d.plain = true) (pe : e.plain = true) (hu : A.units + d.depth < cLine) : EqH X A H x y (PyData.eqv d e) := fun pins σ s u z I ru rz => by
  obtain ⟨as, r1⟩ := Dp.reads I d x u hv ru
  obtain ⟨bs, r2⟩ := Dp.reads I e y z hy rz
  exact (eqAt_plain d e A s u z as bs r1 r2 pl pe (by omega)).eqP
theorem EqH.dict {X : Cx} {A : Around} {H : Hp} {a b : Addr} {ks ls : List (Key × V)} (ha : H a = some (.dK ks)) (hb : H b = some (.dK ls)) (hl : ks.length = ls.length) (hu : A.units < cLine) (h : ∀ p ∈ ks, ∃ u, valV ls p.1 = some u ∧ EqH X A.in1 H p.2 u true) : EqH X A H (.ref a) (.ref b) true := by
  intro pins σ s u z I rx ry
  cases rx
  cases ry
  by_cases e : a = b
  · subst e
    exact (SeqAt.EqAt.same _).eqP
  · refine SeqAt.eqP_refs e fun E Q k => ?_
    obtain ⟨_, ya, va, ra, da⟩ := (show ObjOk X.prog X.w H s.heap a (.dK ks) from I.hok a _ ha)
    obtain ⟨_, yb, vb, rb, db⟩ := (show ObjOk X.prog X.w H s.heap b (.dK ls) from I.hok b _ hb)
    refine PySem.W.rcP_dicts (knd := mixKind X.prog X.w) (r := true) ya yb da db hu (fun _ => hits_run (F := fun x y => EqH X A.in1 H x y true) (fun x y v u f r1 r2 => f pins σ s v u I r1 r2) rb ra h) E Q ?_
    rw [show (va.length == vb.length && true) = true from by rw [← ra.length, ← rb.length, hl]; simp]
    exact k
def rNeH (X : Cx) : R2 := fun x y H Q => ∃ c, RcH X X.A H x y c ∧ Q (.bl (!c)) H
theorem op_neH {X : Cx} (hu : X.A.units < cLine) : OpR X (compareOp .NotEq) (rNeH X) := by
  intro pins s σ H x y v u Q I rx ry h
  obtain ⟨c, h, q⟩ := h
  exact h.ne hu I rx ry _ _ ⟨.bl (!c), H, I, rfl, q⟩
end Wm
namespace Wm
open PySem L2
def IntV (H : Hp) (v : V) (b : Bool) : Prop := (∃ n, v = .int n ∧ b = true) ∨ (AnyV H v ∧ (∀ n, v ≠ .int n) ∧ b = false)
theorem IntV.int {H : Hp} (n : Int) : IntV H (.int n) true := .inl ⟨n, rfl, rfl⟩
theorem IntV.any {H : Hp} {v : V} {b : Bool} (h : IntV H v b) : AnyV H v := by
  rcases h with ⟨n, rfl, _⟩ | h
  · trivial
  · exact h.1
theorem IntV.of {H : Hp} {v : V} (h : AnyV H v) : ∃ b, IntV H v b := by
  by_cases z : ∃ n, v = .int n
  · obtain ⟨n, rfl⟩ := z
    exact ⟨true, .int n⟩
  · exact ⟨false, .inr ⟨h, fun n e => z ⟨n, e⟩, rfl⟩⟩
theorem IntV.same {H H' : Hp} {v : V} {b : Bool} (h : IntV H v b) (s : Same H H') : IntV H' v b := by
  rcases h with h | ⟨h1, h2⟩
  · exact .inl h
  · exact .inr ⟨h1.same s, h2⟩
theorem AnyV.kInt {K : PySem.W.Frag} {H : Hp} {v : V} (h : AnyV H v) : ∃ t b c, TyX K H v (.type t) ∧ kitB t "int" = some b ∧ kitB t "bool" = some c ∧ ((b && !c) = true ↔ ∃ n, v = .int n) := by
  cases v with
  | non => exact ⟨_, false, false, .base .non, by decide +kernel, by decide +kernel, by simp⟩
  | bl b => exact ⟨_, true, true, .base (.bl b), by decide +kernel, by decide +kernel, by simp⟩
  | int i => exact ⟨_, true, false, .base (.int i), by decide +kernel, by decide +kernel, by simp⟩
  | str x => exact ⟨_, false, false, .base (.str x), by decide +kernel, by decide +kernel, by simp⟩
  | ref a =>
    rcases h with ⟨xs, h⟩ | ⟨xs, h⟩ | ⟨kvs, h⟩
    · exact ⟨_, false, false, .base (.lst h), by decide +kernel, by decide +kernel, by simp⟩
    · exact ⟨_, false, false, .base (.tup h), by decide +kernel, by decide +kernel, by simp⟩
    · exact ⟨_, false, false, .base (.dK h), by decide +kernel, by decide +kernel, by simp⟩
  | _ => exact h.elim
theorem IntV.kInt {K : PySem.W.Frag} {H : Hp} {v : V} {r : Bool} (h : IntV H v r) : ∃ t b c, TyX K H v (.type t) ∧ kitB t "int" = some b ∧ kitB t "bool" = some c ∧ (b && !c) = r := by
  obtain ⟨t, b, c, h1, h2, h3, h4⟩ := h.any.kInt (K := K)
  refine ⟨t, b, c, h1, h2, h3, ?_⟩
  rcases h with ⟨n, rfl, rfl⟩ | ⟨_, hn, rfl⟩
  · exact h4.mpr ⟨n, rfl⟩
  · exact Bool.eq_false_iff.mpr fun z => by
      obtain ⟨n, e⟩ := h4.mp z
      exact hn n e
def okV : Option Str → V
  | none => .non
  | some x => .str x
inductive ValD (H : Hp) : V → Option (List V) → Prop
  | sc {v : V} (h : AnyV H v) (n : ∀ a, v ≠ .ref a) : ValD H v none
  | sq {a : Addr} {xs : List V} (h : H a = some (.lst xs) ∨ H a = some (.tup xs)) (hx : ∀ x, x ∈ xs → AnyV H x) (hl : xs.length ≤ 2000) : ValD H (.ref a) (some xs)
  | dk {a : Addr} {kvs : List (Key × V)} (h : H a = some (.dK kvs)) : ValD H (.ref a) none
theorem ValD.same {H H' : Hp} {v : V} {o : Option (List V)} (h : ValD H v o) (s : Same H H') : ValD H' v o := by
  cases h with
  | sc h n => exact .sc (h.same s) n
  | sq h hx hl => exact .sq (h.imp (s _ _) (s _ _)) (fun x hm => (hx x hm).same s) hl
  | dk h => exact .dk (s _ _ h)
theorem ValD.any {H : Hp} {v : V} {o : Option (List V)} (h : ValD H v o) : AnyV H v := by
  cases h with
  | sc h _ => exact h
  | sq h _ _ =>
    rcases h with h | h
    · exact .inl ⟨_, h⟩
    · exact .inr (.inl ⟨_, h⟩)
  | dk h => exact .inr (.inr ⟨_, h⟩)
def memV (rows : List Row) (ks : List (Option Str)) (t : Str) (v : V) : Prop := ∃ n : Nat, v = .int n ∧ memB rows ks t n = true
def valP (rows : List Row) (ks : List (Option Str)) (m t : Str) (v : V) (o : Option (List V)) : Prop :=
  (m = "one" ∧ (v = .non ∨ memV rows ks t v)) ∨ (m ≠ "one" ∧ ∃ xs, o = some xs ∧ ∀ x, x ∈ xs → memV rows ks t x)
theorem FvR.valD {F : Addr → Prop} {b : Bool} {H : Hp} {x : FV} {v : V} (h : FvR F b H x v) (hl : x.nums.length ≤ 2000) : ∃ o, ValD H v o ∧ ∀ rows ks m t, fvB rows ks m t x = true → valP rows ks m t v o := by
  rcases x with (_ | n) | l
  · cases h
    exact ⟨none, .sc trivial (fun a z => by cases z), fun rows ks m t hh => .inl ⟨by simpa [fvB] using hh, .inl rfl⟩⟩
  · cases h
    refine ⟨none, .sc trivial (fun a z => by cases z), fun rows ks m t hh => ?_⟩
    simp only [fvB, Bool.and_eq_true, decide_eq_true_eq] at hh
    exact .inl ⟨hh.1, .inr ⟨n, rfl, hh.2⟩⟩
  · obtain ⟨a, rfl, f, h⟩ := h
    refine ⟨some (numsV l), .sq (h.imp id (fun z => z.2)) (fun x hx => ?_) (by unfold numsV; rw [List.length_map]; exact hl), fun rows ks m t hh => ?_⟩
    · obtain ⟨n, _, rfl⟩ := List.mem_map.mp hx
      trivial
    · simp only [fvB, Bool.and_eq_true, Bool.not_eq_true', decide_eq_false_iff_not, List.all_eq_true] at hh
      refine .inr ⟨hh.1, _, rfl, fun x hx => ?_⟩
      obtain ⟨n, hn, rfl⟩ := List.mem_map.mp hx
      exact ⟨n, rfl, hh.2 n hn⟩
theorem concF_iff {rows : List Row} (hok : SchOk rows) {r : Row} (hr : r ∈ rows) : r.name ∈ concF rows ↔ r.abs = false := by
  refine ⟨fun h => ?_, fun h => List.mem_map_of_mem (List.mem_filter.mpr ⟨hr, by simp [h]⟩)⟩
  obtain ⟨r', h1, h2⟩ := List.mem_map.mp h
  obtain ⟨h3, h4⟩ := List.mem_filter.mp h1
  have e := row_uniq hok.ok.nd h3 hr h2
  subst e
  simpa using h4
theorem conc_names {rows : List Row} {x : Str} (h : x ∈ concF rows) : x ∈ names rows := by
  obtain ⟨r, h1, rfl⟩ := List.mem_map.mp h
  exact List.mem_map_of_mem (List.mem_filter.mp h1).1
theorem kn_name {rows : List Row} (hok : SchOk rows) {H : Hp} {x : Str} (h : x ∈ names rows) : KnV H (.str x) true := .inl ⟨x, rfl, by
  have := kindName_len (hok.ok.kn h)
  rw [PySem.sizeLine_eq]
  omega, (hok.ok.kn h).symm⟩
theorem kn_false {rows : List Row} (hok : SchOk rows) {H : Hp} {v : V} {x : Str} (h : KnV H v false) (e : v = .str x) (hx : x ∈ names rows) : False := by
  subst e
  rcases h with ⟨y, e, _, hb⟩ | ⟨_, h, _⟩
  · cases e
    rw [hok.ok.kn hx] at hb
    cases hb
  · exact h _ rfl
theorem r_isiVD {K : PySem.W.Frag} {H : Hp} {Q : L2.VK} {tp : Addr} {v : V} {o : Option (List V)} (h : H tp = some (.tup [.ty "list", .ty "tuple"])) (hv : ValD H v o) (k : Q (.bl o.isSome) H) : rIsiT K [v, .ref tp] H Q := by
  have cs : Paired ClsV [V.ty "list", V.ty "tuple"] _ := .cons (.ty _) (.cons (.ty _) .nil)
  cases hv with
  | sc hv n =>
    cases v with
    | non => exact r_isiT h cs (.base .non) rfl k
    | bl b => exact r_isiT h cs (.base (.bl b)) rfl k
    | int i => exact r_isiT h cs (.base (.int i)) rfl k
    | str x => exact r_isiT h cs (.base (.str x)) rfl k
    | ref a => exact absurd rfl (n a)
    | _ => exact hv.elim
  | sq hv hx hl =>
    rcases hv with hv | hv
    · exact r_isiT h cs (.base (.lst hv)) rfl k
    · exact r_isiT h cs (.base (.tup hv)) rfl k
  | dk hv => exact r_isiT h cs (.base (.dK hv)) rfl k
theorem bools_of {α : Type} {P : α → Prop} : ∀ {xs : List α} {ys : List V}, All2 (fun x y => ∃ c : Bool, y = V.bl c ∧ (c = true ↔ P x)) xs ys → ∃ bs : List Bool, ys = bs.map V.bl ∧ (bs.all id = true ↔ ∀ x, x ∈ xs → P x)
  | _, _, .nil => ⟨[], rfl, by simp⟩
  | _, _, .cons h t => by
    obtain ⟨c, rfl, hc⟩ := h
    obtain ⟨bs, rfl, hb⟩ := bools_of t
    refine ⟨c :: bs, rfl, ?_⟩
    rw [List.all_cons, Bool.and_eq_true, hb]
    simp only [id_eq, hc, List.mem_cons, forall_eq_or_imp]
def ModeOk (f : Fld4) : FV → Prop
  | .one _ => f.2.1 = "one"
  | .many _ => f.2.1 ≠ "one"
def spIsInt : Sp := fun vs H Q _ => ∃ (v : V) (b : Bool), vs = [v] ∧ IntV H v b ∧ Q (.bl b) H
def spConcr (C D : Addr) : Sp := fun vs H Q _ => ∃ (S : Addr) (rows : List Row) (v : V) (b : Bool), vs = [.ref S, v] ∧ SchAt C D H rows S ∧ SchOk rows ∧ KnV H v b ∧
  ∀ (r : Bool) H', Same H H' → (r = true ↔ ∃ x, v = .str x ∧ x ∈ concF rows) → Q (.bl r) H'
def spIsTag : Sp := fun vs H Q _ => ∃ (v : V) (b : Bool), vs = [v] ∧ IntV H v b ∧ ∀ r : Bool, (r = true ↔ ∃ n, v = .int n ∧ -MT ≤ n ∧ n ≤ MT) → Q (.bl r) H
def KsAt (H : Hp) (rows : List Row) (kL : Addr) (ks : List (Option Str)) : Prop := H kL = some (.lst (ks.map okV)) ∧ ∀ x, some x ∈ ks → x ∈ names rows
def spIsMem (C D : Addr) : Sp := fun vs H Q _ => ∃ (S kL : Addr) (rows : List Row) (ks : List (Option Str)) (t : Str) (v : V) (b : Bool), vs = [.ref S, .ref kL, .str t, v] ∧ SchAt C D H rows S ∧ SchOk rows ∧ KsAt H rows kL ks ∧ t ∈ names rows ∧ IntV H v b ∧
  ∀ (r : Bool) H', Same H H' → (r = true ↔ memV rows ks t v) → Q (.bl r) H'
def spIsVal (C D : Addr) : Sp := fun vs H Q _ => ∃ (S kL : Addr) (rows : List Row) (ks : List (Option Str)) (m t : Str) (v : V) (o : Option (List V)), vs = [.ref S, .ref kL, .str m, .str t, v] ∧ SchAt C D H rows S ∧ SchOk rows ∧ KsAt H rows kL ks ∧ t ∈ names rows ∧ ValD H v o ∧
  ∀ (r : Bool) H', Same H H' → (r = true ↔ valP rows ks m t v o) → Q (.bl r) H'
def spKept : Sp := fun vs H Q _ => ∃ (m : Str) (v : V), vs = [.str m, v] ∧ ((m = "one" ∧ Q v H) ∨ (m ≠ "one" ∧ ∃ a xs, v = .ref a ∧ (H a = some (.lst xs) ∨ H a = some (.tup xs)) ∧ ∀ q H', Same H H' → H q = none → H' q = some (.lst xs) → Q (.ref q) H'))
def spEmpty : Sp := fun vs H Q _ => ∃ (m : Str), vs = [.str m] ∧ ((m = "one" ∧ Q .non H) ∨ (m ≠ "one" ∧ ∀ q H', Same H H' → H q = none → H' q = some (.lst []) → Q (.ref q) H'))
def spNums : Sp := fun vs H Q _ => ∃ (F : Addr → Prop) (x : FV) (v : V), vs = [v] ∧ FvR F false H x v ∧ ∀ q H', Same H H' → H q = none → H' q = some (.lst (numsV x.nums)) → Q (.ref q) H'
def spGInit (CG : Addr) : Sp := fun vs H Q _ => ∃ (a dx S : Addr), vs = [.ref a, .ref S] ∧ H a = some (.ins CG dx []) ∧ ∀ tl H', But a H H' → H tl = none → tl ≠ a → H' tl = some (.lst []) → H' a = some (.ins CG dx (gfsF S tl 0 0)) → Q .non H'
def spApp (C D CG : Addr) : Sp := fun vs H Q _ => ∃ (g S d : Addr) (F G : Addr → Prop) (rows : List Row) (ts : List Tg) (t : Tg) (root : Int) (kvs : List (Key × V)), vs = [.ref g, .str t.kind, .int t.tag, .ref d] ∧ GrAt CG F H S rows ts root g ∧ SchAt C D H rows S ∧ SchOk rows ∧
  SparseD G H (fieldsF rows t.kind) t.vals d kvs ∧ t.kind ∈ names rows ∧ All2 ModeOk (fieldsF rows t.kind) t.vals ∧ ts.length < 1000 ∧
  ∀ H', Frm F H H' → GrAt CG (fun a => F a ∨ H a = none) H' S rows (ts ++ [t]) root g → Q .non H'
def spChkT (CG N : Addr) : Sp := fun vs H Q E => ∃ (g S : Addr) (F : Addr → Prop) (rows : List Row) (ts : List Tg) (root : Int) (v : V) (b : Bool), vs = [.ref g, v] ∧ GrAt CG F H S rows ts root g ∧ IntV H v b ∧
  (∀ n : Nat, v = .int n → n < ts.length → Q .non H) ∧ ((∀ n : Nat, v = .int n → ¬ n < ts.length) → ∀ d H', Same H H' → H d = none → H' d = some (.xd [("thing", v)]) → E (.ref N) (some d) H')
def spGLen (CG : Addr) : Sp := fun vs H Q _ => ∃ (g S : Addr) (F : Addr → Prop) (rows : List Row) (ts : List Tg) (root : Int), vs = [.ref g] ∧ GrAt CG F H S rows ts root g ∧ Q (.int (ts.length : Nat)) H
def spGSize (CG : Addr) : Sp := fun vs H Q _ => ∃ (g S : Addr) (F : Addr → Prop) (rows : List Row) (ts : List Tg) (root : Int), vs = [.ref g] ∧ GrAt CG F H S rows ts root g ∧ Q (.int ((ts.length : Nat) + (heldN ts : Nat))) H
def spGRoot (CG : Addr) : Sp := fun vs H Q _ => ∃ (g S : Addr) (F : Addr → Prop) (rows : List Row) (ts : List Tg) (root : Int), vs = [.ref g] ∧ GrAt CG F H S rows ts root g ∧ Q (.int root) H
def spGRow (CG N : Addr) : Sp := fun vs H Q E => ∃ (g S : Addr) (F : Addr → Prop) (rows : List Row) (ts : List Tg) (root : Int) (v : V) (b : Bool), vs = [.ref g, v] ∧ GrAt CG F H S rows ts root g ∧ IntV H v b ∧ SchOk rows ∧ (∀ t, t ∈ ts → t.kind ∈ names rows) ∧
  (∀ (n : Nat) t, v = .int n → ts[n]? = some t → ∀ x H', Same H H' → RowR (New H) false H' rows t x → Q x H') ∧ ((∀ n : Nat, v = .int n → ¬ n < ts.length) → ∀ d H', Same H H' → H d = none → H' d = some (.xd [("thing", v)]) → E (.ref N) (some d) H')
def spGRows (CG : Addr) : Sp := fun vs H Q _ => ∃ (g S : Addr) (F : Addr → Prop) (rows : List Row) (ts : List Tg) (root : Int), vs = [.ref g] ∧ GrAt CG F H S rows ts root g ∧ SchOk rows ∧ (∀ t, t ∈ ts → t.kind ∈ names rows) ∧ ts.length ≤ 1000 ∧ ∀ L H', Same H H' → ThsR (New H) false H' rows ts L → Q (.ref L) H'
def spLTag : Sp := fun vs H Q _ => ∃ (p c : Addr), vs = [.ref p] ∧ PenAt H p c ∧ ∀ (n : Int) H', PenStep p c H H' → -MT ≤ n → n ≤ MT → Q (.int n) H'
def targF (rows : List Row) (ks : List Str) (t : Str) : List Nat := (List.range ks.length).filter fun k => match ks[k]? with | some x => decide (x ∈ underF rows t) | none => false
def spLTargs : Sp := fun vs H Q _ => ∃ (L kL : Addr) (rows : List Row) (ks : List Str) (t : Str), vs = [.ref L, .ref kL, .str t] ∧ RowsAt H L rows ∧ SchOk rows ∧ H kL = some (.lst (ks.map V.str)) ∧ ks.length ≤ 1000 ∧ ∀ q H', Same H H' → H q = none → H' q = some (.lst (numsV (targF rows ks t))) → Q (.ref q) H'
def spLVal : Sp := fun vs H Q _ => ∃ (p c L kL : Addr) (rows : List Row) (ks : List Str) (m t : Str) (cap : Nat), vs = [.ref p, .ref L, .ref kL, .str m, .str t, .int cap] ∧ PenAt H p c ∧ RowsAt H L rows ∧ SchOk rows ∧ H kL = some (.lst (ks.map V.str)) ∧ ks.length ≤ 1000 ∧ m ∈ MODESl ∧ cap ≤ 100 ∧
  ∀ x v H', PenStep p c H H' → FvR (New H) false H' x v → fvB rows (ks.map some) m t x = true → x.nums.length ≤ cap + 1 → Q v H'
def spLCopied : Sp := fun vs H Q _ => ∃ (F : Addr → Prop) (x : FV) (v : V), vs = [v] ∧ FvR F false H x v ∧ ∀ v' H', Same H H' → FvR (New H) false H' x v' → Q v' H'
def spLHeld : Sp := fun vs H Q _ => ∃ (L : Addr) (rows : List Row) (F : Addr → Prop) (t : Tg) (v : V), vs = [.ref L, v] ∧ RowsAt H L rows ∧ SchOk rows ∧ RowR F false H rows t v ∧ t.kind ∈ names rows ∧ (heldT t).length ≤ 100000 ∧ ∀ q H', Same H H' → H q = none → H' q = some (.lst (numsV (heldT t))) → Q (.ref q) H'
def spLSize : Sp := fun vs H Q _ => ∃ (L T : Addr) (rows : List Row) (F : Addr → Prop) (ts : List Tg), vs = [.ref L, .ref T] ∧ RowsAt H L rows ∧ SchOk rows ∧ ThsR F false H rows ts T ∧ (∀ t, t ∈ ts → t.kind ∈ names rows) ∧ heldN ts ≤ 100000 ∧ ∀ H', Same H H' → Q (.int ((ts.length : Nat) + (heldN ts : Nat))) H'
def spLShows (CG : Addr) : Sp := fun vs H Q _ => ∃ (g S L T : Addr) (rows : List Row) (F G : Addr → Prop) (ts : List Tg) (root : Int), vs = [.ref g, .ref L, .ref T, .int root] ∧ RowsAt H L rows ∧ SchOk rows ∧ GrAt CG F H S rows ts root g ∧ ThsR G false H rows ts T ∧ GrOk rows ts ∧ ∀ H', Same H H' → Q (.bl true) H'
end Wm
namespace Wm
open PySem L2
theorem pl_ne {H : Hp} {a g C dx : Addr} {fs : List (Str × V)} {o : HO} (e : H a = some o) (p : Pl o) (eg : H g = some (.ins C dx fs)) : a ≠ g := fun z => by
  rw [z, eg] at e
  cases e
  exact p
theorem But.kpsP {g : Addr} {F : Addr → Prop} {H H' : Hp} (b : But g H H') : Kps (fun a => F a ∧ a ≠ g) H H' := fun c o f e => b c o f.2 e
section
variable {g C dx : Addr} {fs : List (Str × V)} {F : Addr → Prop} {H H' : Hp}
theorem FvR.but {b : Bool} {x : FV} {v : V} (h : FvR F b H x v) (eg : H g = some (.ins C dx fs)) (s : But g H H') : FvR F b H' x v :=
  ((h.sub (G := fun a => F a ∧ a ≠ g) fun a o f e p => ⟨f, pl_ne e p eg⟩).kps s.kpsP).sub fun _ _ f _ _ => f.1
theorem FullD.but {b : Bool} {fl : List Fld4} {vals : List FV} {d : Addr} {kvs : List (Key × V)} (h : FullD F b H fl vals d kvs) (eg : H g = some (.ins C dx fs)) (s : But g H H') : FullD F b H' fl vals d kvs :=
  ((h.sub (G := fun a => F a ∧ a ≠ g) fun a o f e p => ⟨f, pl_ne e p eg⟩).kps s.kpsP).sub fun _ _ f _ _ => f.1
theorem SparseD.but {fl : List Fld4} {vals : List FV} {d : Addr} {kvs : List (Key × V)} (h : SparseD F H fl vals d kvs) (eg : H g = some (.ins C dx fs)) (s : But g H H') : SparseD F H' fl vals d kvs :=
  ((h.sub (G := fun a => F a ∧ a ≠ g) fun a o f e p => ⟨f, pl_ne e p eg⟩).kps s.kpsP).sub fun _ _ f _ _ => f.1
theorem ThIn.but {rows : List Row} {t : Tg} {x : Addr × Addr} (h : ThIn F H rows t x) (eg : H g = some (.ins C dx fs)) (s : But g H H') : ThIn F H' rows t x :=
  ((h.sub (G := fun a => F a ∧ a ≠ g) fun a o f e p => ⟨f, pl_ne e p eg⟩).kps s.kpsP).sub fun _ _ f _ _ => f.1
structure GrB (F : Addr → Prop) (H : Hp) (rows : List Row) (ts : List Tg) (tl : Addr) (ads : List (Addr × Addr)) : Prop where
  tl_ : H tl = some (.lst (ads.map fun x => V.ref x.1))
  ft : F tl
  ths : All2 (ThIn (fun a => F a ∧ a ≠ tl) H rows) ts ads
  nda : (ads.map (·.1)).Nodup
  ndd : (ads.map (·.2)).Nodup
theorem GrB.but {rows : List Row} {ts : List Tg} {tl : Addr} {ads : List (Addr × Addr)} (h : GrB F H rows ts tl ads) (eg : H g = some (.ins C dx fs)) (s : But g H H') : GrB F H' rows ts tl ads :=
  ⟨s _ _ (pl_ne h.tl_ trivial eg) h.tl_, h.ft, h.ths.mono fun _ _ z => z.but eg s, h.nda, h.ndd⟩
theorem GrB.kps {rows : List Row} {ts : List Tg} {tl : Addr} {ads : List (Addr × Addr)} (h : GrB F H rows ts tl ads) (s : Kps F H H') : GrB F H' rows ts tl ads :=
  ⟨s _ _ h.ft h.tl_, h.ft, h.ths.mono fun _ _ z => z.kps (fun b o f e => s b o f.1 e), h.nda, h.ndd⟩
theorem GrB.sub {G : Addr → Prop} {rows : List Row} {ts : List Tg} {tl : Addr} {ads : List (Addr × Addr)} (h : GrB F H rows ts tl ads) (k : ∀ a o, F a → H a = some o → Pl o → G a) : GrB G H rows ts tl ads :=
  ⟨h.tl_, k _ _ h.ft h.tl_ trivial, h.ths.mono fun _ _ z => z.sub (fun a o f e p => ⟨k a o f.1 e p, f.2⟩), h.nda, h.ndd⟩
theorem GrIn.b {S : Addr} {rows : List Row} {ts : List Tg} {root : Int} {tl : Addr} {ads : List (Addr × Addr)} (h : GrIn C F H S rows ts root g dx tl ads) : GrB F H rows ts tl ads := ⟨h.tl_, h.ft, h.ths, h.nda, h.ndd⟩
theorem GrB.gr {S : Addr} {rows : List Row} {ts : List Tg} {root : Int} {tl : Addr} {ads : List (Addr × Addr)} (h : GrB F H rows ts tl ads) (e : H g = some (.ins C dx (gfsF S tl root (heldN ts)))) (fg : F g) : GrIn C F H S rows ts root g dx tl ads := ⟨e, fg, h.tl_, h.ft, h.ths, h.nda, h.ndd⟩
theorem kps_ne {G : Addr → Prop} {tl : Addr} {o : HO} : Kps (fun a => G a ∧ a ≠ tl) H (upd H tl o) := fun b u f e => by
  rw [upd_ne f.2]
  exact e
theorem all2_snd {α β : Type} {R : α → β → Prop} : ∀ {l : List α} {m : List β}, All2 R l m → ∀ y, y ∈ m → ∃ x, x ∈ l ∧ R x y
  | _, _, .nil, _, h => by cases h
  | _, _, .cons h t, y, hy => by
    rcases List.mem_cons.mp hy with rfl | hy
    · exact ⟨_, List.mem_cons_self, h⟩
    · obtain ⟨x, h1, h2⟩ := all2_snd t y hy
      exact ⟨x, List.mem_cons_of_mem _ h1, h2⟩
theorem GrB.add {rows : List Row} {ts : List Tg} {tl a d : Addr} {ads : List (Addr × Addr)} {t : Tg} (h : GrB F H rows ts tl ads) (ht : ThIn (fun a => F a ∧ a ≠ tl) H rows t (a, d))
    (na : ∀ x, x ∈ ads → x.1 ≠ a) (nd : ∀ x, x ∈ ads → x.2 ≠ d) : GrB F (upd H tl (.lst ((ads.map fun x => V.ref x.1) ++ [.ref a]))) rows (ts ++ [t]) tl (ads ++ [(a, d)]) := by
  refine ⟨by rw [upd_same, List.map_append]; rfl, h.ft, All2.snoc (ht.kps kps_ne) (h.ths.mono fun _ _ z => z.kps kps_ne), ?_, ?_⟩
  · rw [List.map_append, List.nodup_append]
    refine ⟨h.nda, by simp, fun x hx y hy z => ?_⟩
    obtain ⟨w, hw, rfl⟩ := List.mem_map.mp hx
    simp only [List.map_cons, List.map_nil, List.mem_cons, List.not_mem_nil, or_false] at hy
    exact na w hw (z.trans hy)
  · rw [List.map_append, List.nodup_append]
    refine ⟨h.ndd, by simp, fun x hx y hy z => ?_⟩
    obtain ⟨w, hw, rfl⟩ := List.mem_map.mp hx
    simp only [List.map_cons, List.map_nil, List.mem_cons, List.not_mem_nil, or_false] at hy
    exact nd w hw (z.trans hy)
theorem GrB.taken {rows : List Row} {ts : List Tg} {tl : Addr} {ads : List (Addr × Addr)} (h : GrB F H rows ts tl ads) : ∀ x, x ∈ ads → (∃ o, H x.1 = some o) ∧ ∃ o, H x.2 = some o := fun x hx => by
  obtain ⟨t, _, _, e, kvs, hd⟩ := all2_snd h.ths x hx
  exact ⟨⟨_, e⟩, _, hd.at_⟩
theorem held_add (ts : List Tg) (t : Tg) : heldN (ts ++ [t]) = heldN ts + (heldT t).length := by
  unfold heldN
  rw [List.map_append, List.sum_append]
  simp
end
theorem r_ifE {c : Bool} {ta tb : TE} {σ : St} {H : Hp} {Q : L2.VK} (P : V → Hp → Prop) (h1 : c = true → ∀ R : L2.VK, (∀ v H', P v H' → R v H') → ta σ H R) (h2 : c = false → ∀ R : L2.VK, (∀ v H', P v H' → R v H') → tb σ H R) (k : ∀ v H', P v H' → Q v H') : if c = true then ta σ H Q else tb σ H Q := by
  cases c
  · exact iteF (h2 rfl _ k)
  · exact iteT (h1 rfl _ k)
theorem take_snoc {α : Type} {l : List α} {i : Nat} {x : α} (h : l[i]? = some x) : l.take (i + 1) = l.take i ++ [x] := by
  rw [List.take_add_one, h]
  rfl
theorem nd_take {α β : Type} {g : α → β} {l : List α} {i : Nat} {x : α} (nd : (l.map g).Nodup) (h : l[i]? = some x) : g x ∉ (l.take i).map g := by
  have e : l = l.take i ++ x :: l.drop (i + 1) := by
    obtain ⟨hi, hx⟩ := List.getElem?_eq_some_iff.mp h
    rw [← hx, ← List.drop_eq_getElem_cons hi, List.take_append_drop]
  rw [e, List.map_append, List.nodup_append] at nd
  intro z
  exact nd.2.2 _ z (g x) (by simp) rfl
theorem FvR.putD {F : Addr → Prop} {b : Bool} {H : Hp} {x : FV} {v : V} {d : Addr} {kvs kvs' : List (Key × V)} (h : FvR F b H x v) (e : H d = some (.dK kvs)) : FvR F b (upd H d (.dK kvs')) x v := by
  rcases x with (_ | n) | l
  · exact h
  · exact h
  · obtain ⟨a, rfl, f, h⟩ := h
    have na : a ≠ d := fun z => by
      rw [z, e] at h
      rcases h with h | ⟨_, h⟩ <;> cases h
    exact ⟨a, rfl, f, by rw [upd_ne na]; exact h⟩
theorem frm_none {g q : Addr} {o o' : HO} {H H' : Hp} (f : Frm (· = g) H H') (e : H g = some o) (e' : H' g = some o') (n : H' q = none) : New H q := by
  unfold New
  cases z : H q with
  | none => rfl
  | some u =>
    by_cases h : q = g
    · rw [h, e'] at n
      cases n
    · rw [f q u h z] at n
      cases n
theorem FvR.putAny {F : Addr → Prop} {b : Bool} {H : Hp} {x : FV} {v : V} {d : Addr} {o o' : HO} (h : FvR F b H x v) (e : H d = some o) (n : match o with | .lst _ => False | .tup _ => False | _ => True) : FvR F b (upd H d o') x v := by
  rcases x with (_ | n) | l
  · exact h
  · exact h
  · obtain ⟨a, rfl, f, h⟩ := h
    have na : a ≠ d := fun z => by
      rw [z, e] at h
      rcases h with h | ⟨_, h⟩
      · cases h
        exact n
      · cases h
        exact n
    exact ⟨a, rfl, f, by rw [upd_ne na]; exact h⟩
end Wm
namespace Wm
open PySem PySem.Spec PyProof.Rows L2
section
variable {X : Cx} {i : Nat} {y : Str} {py pos spos : Pos} {kx vx tg iter : Expr} {ifs : List Expr} {scope : Scope} {own : List (Str × Nat)} {wi : TI} {g : TG} {tt : TT} {tk tv : TE}
theorem swD_true {gs : List Comprehension} {l : Nat} {env : Env} (hk : env.scope.kind = .function) (hy : env.scope.names.lookup y = some .local) (hl : (py.line == pos.line) = true) (ha : (scope.names.any fun (n, k) => n == y && (k == .local || k == .cell)) = false) :
    swapsWith (.DictComp kx vx gs scope pos) (some (.Name y py)) l env = pure true := by
  have k1 : env.kindOf y = some .local := hy
  have k2 : env.blockKind = .function := by
    unfold Env.blockKind
    rw [hk]
    rfl
  unfold swapsWith
  simp only [k1, k2, ha, hl, Expr.pos]
  rfl
theorem ps_setDc (hc : X.calm = true) (hN : X.N.Nodup) (hy : X.N[i]? = some y) (hyl : X.env.scope.names.lookup y = some .local) (hsw : swapsWith (.DictComp kx vx [⟨tg, iter, ifs, 0⟩] scope pos) (some (.Name y py)) spos.line X.env = pure true) (hi : PI X tg iter wi) (ok : BlkOk X.N X.env.scope scope own)
    (hg : ∀ (s : Shared) (H : Hp) (C : Addr) (cl : List (Str × Addr)) (fp : List Addr), PG (X.blk s H scope (compEnvC scope cl C X.env) fp) tg g) (ht : ∀ (s : Shared) (H : Hp) (C : Addr) (cl : List (Str × Addr)) (fp : List Addr), PTs (X.blk s H scope (compEnvC scope cl C X.env) fp) ifs tt) (hk : ∀ (s : Shared) (H : Hp) (C : Addr) (cl : List (Str × Addr)) (fp : List Addr), PE (X.blk s H scope (compEnvC scope cl C X.env) fp) kx tk) (he : ∀ (s : Shared) (H : Hp) (C : Addr) (cl : List (Str × Addr)) (fp : List Addr), PE (X.blk s H scope (compEnvC scope cl C X.env) fp) vx tv)
    (hs : ∀ x, foldedSetIterable iter X.env x = pure x := by intro _; rfl) : PS X (.Assign [.Name y py] (.DictComp kx vx [⟨tg, iter, ifs, 0⟩] scope pos) spos) (tAsg (tDc wi g tt tk tv (own.map (·.2))) (gName i)) := by
  refine ⟨fun pins s σ H D I h0 => ?_⟩
  rw [exec_Assign_Name_used _ _ _ _ hsw]
  refine wpAny_bind (wpAny_standAt (wpAny_bind ?_))
  have h : tDc wi g tt tk tv (own.map (·.2)) σ H (fun x H1 => gName i x σ H1 D.nx) := h0
  refine wpAny_bind (thn (dc_core (Qf := fun _ s' => SP X pins D .next s') (use := some (assign (.Name y py) X.env)) hc hN I hi ok hg ht hk he hs h fun L C s' m H' I' q hn f => ?_) fun _ s' hq => wpAny_pure (wpAny_pure hq))
  show wpAny _ _ (assign (.Name y py) X.env (.ref L)) _ _ _
  refine wpAny_assign_Name (store_ok2 (v := V.ref L) I' hN hy (.inl hyl) rfl (fun s2 I2 z => ?_) (.inr hyl))
  obtain ⟨a, sb, ha⟩ := z
  obtain ⟨f0, f1, f2, f3, f4, f5⟩ := f
  have hne : C ≠ a := by
    rcases ha with z | z
    · rw [z]
      exact f1
    · exact fun e => f4 y a z e.symm
  refine ⟨m, hn.sameBut sb hne, fun h3 sb3 => ⟨_, H', I2.turned (t' := s2.toks) (fun b o hb e => (sb3.2 b hb).trans e) f0 f1 f3 f4 f5, q⟩⟩
end
theorem full_of {F : Addr → Prop} {b : Bool} {H : Hp} : ∀ {fs : List Fld4} {vals : List FV} {kvs : List (Key × V)}, fs.length = vals.length → All2 (fun (a : Fld4 × FV) kv => kv.1 = Sum.inr a.1.1 ∧ FvR F b H a.2 kv.2) (fs.zip vals) kvs → kvs.map (·.1) = keysF fs ∧ All2 (FvR F b H) vals (kvs.map (·.2))
  | [], [], _, _, h => by
    cases h
    exact ⟨rfl, .nil⟩
  | [], _ :: _, _, hl, _ => by cases hl
  | _ :: _, [], _, hl, _ => by cases hl
  | f :: fs, x :: vals, _, hl, h => by
    cases h with
    | cons h t =>
      obtain ⟨h1, h2⟩ := full_of (by simpa using hl) t
      exact ⟨by rw [List.map_cons, h1, h.1]; rfl, .cons h.2 h2⟩
theorem zip_at {α β : Type} {l : List α} {m : List β} {i : Nat} {x : α × β} (h : (l.zip m)[i]? = some x) : l[i]? = some x.1 ∧ m[i]? = some x.2 := by
  rw [List.getElem?_zip_eq_some] at h
  exact h
theorem zip_fst {α β : Type} : ∀ {l : List α} {m : List β}, l.length = m.length → (l.zip m).map Prod.fst = l
  | [], [], _ => rfl
  | [], _ :: _, h => by cases h
  | _ :: _, [], h => by cases h
  | a :: l, b :: m, h => by
    rw [List.zip_cons_cons, List.map_cons, zip_fst (by simpa using h)]
theorem FullD.len {F : Addr → Prop} {b : Bool} {H : Hp} {fs : List Fld4} {vals : List FV} {d : Addr} {kvs : List (Key × V)} (h : FullD F b H fs vals d kvs) : fs.length = vals.length ∧ kvs.length = fs.length := by
  have h1 := congrArg List.length h.keys
  have h2 := h.vs.len
  unfold keysF at h1
  rw [List.length_map, List.length_map] at h1
  rw [List.length_map] at h2
  omega
theorem FullD.at {F : Addr → Prop} {b : Bool} {H : Hp} {fs : List Fld4} {vals : List FV} {d : Addr} {kvs : List (Key × V)} {i : Nat} {f : Fld4} {x : FV} (h : FullD F b H fs vals d kvs) (hf : fs[i]? = some f) (hx : vals[i]? = some x) : ∃ kv, kvs[i]? = some kv ∧ kv.1 = .inr f.1 ∧ FvR F b H x kv.2 := by
  obtain ⟨v, hv, hr⟩ := h.vs.left hx
  rw [List.getElem?_map] at hv
  cases e : kvs[i]? with
  | none =>
    rw [e] at hv
    cases hv
  | some kv =>
    rw [e] at hv
    cases hv
    have z : (kvs.map (·.1))[i]? = some kv.1 := by rw [List.getElem?_map, e]; rfl
    rw [h.keys] at z
    unfold keysF at z
    rw [List.getElem?_map, hf] at z
    have z := Option.some.inj z
    exact ⟨kv, rfl, z.symm, hr⟩
theorem new_ne {H Hj : Hp} {D a : Addr} {o : HO} (eD : Hj D = some o) (s : Same H Hj) (n : New Hj a) : New H a ∧ a ≠ D := ⟨s.free n, fun z => by
  unfold New at n
  rw [z, eD] at n
  cases n⟩
theorem kps_hid {G : Addr → Prop} {D : Addr} {H : Hp} : Kps (fun a => G a ∧ a ≠ D) H (hid D H) := fun b o f e => hid_at f.2 e
theorem RowR.hid {H Hj H2 : Hp} {D : Addr} {o : HO} {b : Bool} {rows : List Row} {t : Tg} {v : V} (h : RowR (New Hj) b H2 rows t v) (eD : Hj D = some o) (s : Same H Hj) : RowR (New H) b (hid D H2) rows t v :=
  ((h.sub (G := fun a => New H a ∧ a ≠ D) fun a _ f _ _ => new_ne eD s f).kps kps_hid).sub fun _ _ f _ _ => f.1
theorem RowS.hid {H Hj H2 : Hp} {D : Addr} {o : HO} {rows : List Row} {t : Tg} {v : V} (h : RowS (New Hj) H2 rows t v) (eD : Hj D = some o) (s : Same H Hj) : RowS (New H) (hid D H2) rows t v :=
  ((h.sub (G := fun a => New H a ∧ a ≠ D) fun a _ f _ _ => new_ne eD s f).kps kps_hid).sub fun _ _ f _ _ => f.1
theorem RowR.str {F : Addr → Prop} {b : Bool} {H H' : Hp} {rows : List Row} {t : Tg} {v : V} (h : RowR F b H rows t v) (hh : ∀ b o, H b = some o → H' b = some o) : RowR F b H' rows t v := h.kps fun b o _ e => hh b o e
theorem RowS.str {F : Addr → Prop} {H H' : Hp} {rows : List Row} {t : Tg} {v : V} (h : RowS F H rows t v) (hh : ∀ b o, H b = some o → H' b = some o) : RowS F H' rows t v := h.kps fun b o _ e => hh b o e
end Wm
namespace Wm
open PySem L2
theorem valV_at : ∀ {kvs : List (Key × V)} {j : Nat} {kv : Key × V}, (kvs.map (·.1)).Nodup → kvs[j]? = some kv → valV kvs kv.1 = some kv.2
  | [], _, _, _, h => by simp at h
  | p :: r, 0, _, _, h => by
    cases h
    exact valV_pos rfl
  | p :: r, j + 1, kv, nd, h => by
    rw [List.map_cons, List.nodup_cons] at nd
    have hm : kv ∈ r := List.mem_of_getElem? (by simpa using h)
    rw [valV_neg (fun z => nd.1 (z ▸ List.mem_map_of_mem hm))]
    exact valV_at nd.2 (by simpa using h)
theorem fields_fn {all : List Str} {rows : List Row} (ok : RowsOk all rows) {n : Str} {f : Fld4} (h : f ∈ fieldsF rows n) : fieldName f.1 = true ∧ f.2.1 ∈ MODESl := by
  unfold fieldsF at h
  rw [List.mem_flatMap] at h
  obtain ⟨o, _, h⟩ := h
  obtain ⟨g, hg, rfl⟩ := List.mem_map.mp h
  unfold ownOf at hg
  cases hf : rows.find? (fun r => r.name == o) with
  | none =>
    rw [hf] at hg
    cases hg
  | some x =>
    rw [hf] at hg
    obtain ⟨k, hk⟩ := List.mem_iff_getElem?.mp (List.mem_of_find?_eq_some hf)
    have z := (ok k x hk).own g hg
    exact ⟨z.1, z.2.1⟩
theorem KsAt.same {H H' : Hp} {rows : List Row} {kL : Addr} {ks : List (Option Str)} (h : KsAt H rows kL ks) (s : Same H H') : KsAt H' rows kL ks := ⟨s _ _ h.1, h.2⟩
theorem SparseD.at {F : Addr → Prop} {H : Hp} {fs : List Fld4} {vals : List FV} {d : Addr} {kvs : List (Key × V)} {j : Nat} {kv : Key × V} (h : SparseD F H fs vals d kvs) (e : kvs[j]? = some kv) : ∃ (i : Nat) (f : Fld4) (x : FV), fs[i]? = some f ∧ vals[i]? = some x ∧ kv.1 = .inr f.1 ∧ FvR F true H x kv.2 := by
  have h1 := h.keys kv (List.mem_of_getElem? e)
  unfold keysF at h1
  obtain ⟨f, hf1, hf2⟩ := List.mem_map.mp h1
  obtain ⟨i, hi⟩ := List.mem_iff_getElem?.mp hf1
  obtain ⟨x, hx, hv⟩ := h.vs.left hi
  rw [hf2, valV_at h.nd e] at hv
  exact ⟨i, f, x, hi, hx, hf2.symm, hv⟩
theorem r_dNotIn {ty td : TE} {σ : St} {H : Hp} {Q : L2.VK} (h : ty σ H fun y H1 => td σ H1 fun x H2 => ∃ a o, x = .ref a ∧ DGet H2 a y o ∧ Q (.bl (!o.isSome)) H2) : tDNotIn ty td σ H Q := h
theorem targ_mem {rows : List Row} {ks : List Str} {t : Str} {n : Nat} (h : n ∈ targF rows ks t) : memB rows (ks.map some) t n = true := by
  unfold targF at h
  obtain ⟨h1, h2⟩ := List.mem_filter.mp h
  unfold memB
  rw [List.getElem?_map]
  cases e : ks[n]? with
  | none =>
    rw [e] at h2
    cases h2
  | some x =>
    rw [e] at h2
    have h3 : x ∈ underF rows t := by simpa using h2
    unfold underF at h3
    have h4 := (List.mem_filter.mp h3).2
    simpa using h4
theorem numsV_len (l : List Nat) : (numsV l).length = l.length := by
  unfold numsV
  rw [List.length_map]
theorem numsV_at {l : List Nat} {k n : Nat} (h : l[k]? = some n) : atI (numsV l) (k : Int) = some (V.int (n : Nat)) := atI_nat (by
  unfold numsV
  rw [List.getElem?_map, h]
  rfl)
theorem le_sum : ∀ {l : List Nat} {n : Nat}, n ∈ l → n ≤ l.sum
  | [], _, h => by cases h
  | a :: l, n, h => by
    rw [List.sum_cons]
    rcases List.mem_cons.mp h with rfl | h
    · omega
    · have := le_sum h
      omega
theorem held_le {ts : List Tg} {t : Tg} (h : t ∈ ts) : (heldT t).length ≤ heldN ts := le_sum (List.mem_map_of_mem h)
theorem r_prop {C : Addr} {sp : Sp} {dvs : List V} {E : XK} {ta : TE} {σ : St} {H : Hp} {Q : L2.VK} (h : ta σ H fun x H1 => ∃ a dx fs, x = .ref a ∧ H1 a = some (.ins C dx fs) ∧ sp (.ref a :: dvs) H1 Q E) : tProp C sp dvs E ta σ H Q := h
theorem r_propK {C o dx : Addr} {fs : List (Str × V)} {sp : Sp} {dvs : List V} {E : XK} {H : Hp} {Q : L2.VK} (h : H o = some (.ins C dx fs)) (q : sp (.ref o :: dvs) H Q E) : ∃ a dx fs, V.ref o = .ref a ∧ H a = some (.ins C dx fs) ∧ sp (.ref a :: dvs) H Q E := ⟨o, dx, fs, rfl, h, q⟩
end Wm
namespace Wm
open PySem L2
open PyProof.Rows hiding St
theorem dp_nums {K : PySem.W.Frag} {H : Hp} : ∀ l : List Nat, DpAll K H (numsV l) (l.map fun n => PyData.int (n : Nat))
  | [] => .nil
  | n :: l => .cons (.int _) (dp_nums l)
theorem plain_nums : ∀ l : List Nat, PyData.plainAll (l.map fun n => PyData.int (n : Nat)) = true
  | [] => rfl
  | n :: l => by
    rw [List.map_cons, PyData.plainAll, plain_nums l]
    rfl
theorem depth_nums : ∀ l : List Nat, PyData.depthAll (l.map fun n => PyData.int (n : Nat)) ≤ 1
  | [] => by simp [PyData.depthAll]
  | n :: l => by
    have := depth_nums l
    rw [List.map_cons]
    simp only [PyData.depthAll, PyData.depth]
    omega
section
variable {X : Cx} {A : Around} {H : Hp} {F G : Addr → Prop}
theorem eqH_refl {x y : V} {d : PyData} (hv : Dp X.K H x d) (hy : Dp X.K H y d) (p : d.plain = true) (hu : A.units + d.depth < cLine) : EqH X A H x y true := by
  have := EqH.plain (A := A) hv hy p p hu
  rwa [PySem.SeqAt.eqv_refl_plain d p] at this
theorem FvR.eqH {x : FV} {v1 v2 : V} (h1 : FvR F false H x v1) (h2 : FvR G false H x v2) (hu : A.units + 8 < cLine) : EqH X A H v1 v2 true := by
  rcases x with (_ | n) | l
  · cases h1
    cases h2
    exact eqH_refl (.non) (.non) rfl (by show A.units + _ < _; simp only [PyData.depth]; omega)
  · cases h1
    cases h2
    exact eqH_refl (.int _) (.int _) rfl (by simp only [PyData.depth]; omega)
  · obtain ⟨a, rfl, _, e1 | ⟨z, _⟩⟩ := h1
    · obtain ⟨b, rfl, _, e2 | ⟨z, _⟩⟩ := h2
      · refine eqH_refl (.lst (.of e1) (dp_nums l)) (.lst (.of e2) (dp_nums l)) ?_ ?_
        · rw [PyData.plain]
          exact plain_nums l
        · have := depth_nums l
          simp only [PyData.depth]
          omega
      · cases z
    · cases z
theorem FullD.eqH {fs : List Fld4} {vals : List FV} {d1 d2 : Addr} {k1 k2 : List (Key × V)} (h1 : FullD F false H fs vals d1 k1) (h2 : FullD G false H fs vals d2 k2) (nd : (fs.map (·.1)).Nodup) (hu : A.units + 9 < cLine) : EqH X A H (.ref d1) (.ref d2) true := by
  obtain ⟨l1, l2⟩ := h1.len
  obtain ⟨l3, l4⟩ := h2.len
  refine EqH.dict h1.at_ h2.at_ (by omega) (by omega) fun p hp => ?_
  obtain ⟨i, hi⟩ := List.mem_iff_getElem?.mp hp
  have hil := (List.getElem?_eq_some_iff.mp hi).1
  obtain ⟨f, hf⟩ : ∃ f, fs[i]? = some f := ⟨_, List.getElem?_eq_getElem (by omega)⟩
  obtain ⟨x, hx⟩ : ∃ x, vals[i]? = some x := ⟨_, List.getElem?_eq_getElem (by omega)⟩
  obtain ⟨kv1, e1, e2, e3⟩ := h1.at hf hx
  obtain ⟨kv2, g1, g2, g3⟩ := h2.at hf hx
  rw [hi] at e1
  cases e1
  refine ⟨kv2.2, ?_, e3.eqH g3 (by show A.units + 1 + 8 < _; omega)⟩
  rw [e2, ← g2]
  exact valV_at (by
    rw [h2.keys]
    exact List.pairwise_map.mpr ((List.pairwise_map.mp nd).imp fun h z => h (Sum.inr.inj z))) g1
theorem RowR.rcH {rows : List Row} {t : Tg} {v1 v2 : V} (h1 : RowR F false H rows t v1) (h2 : RowR G false H rows t v2) (nd : ((fieldsF rows t.kind).map (·.1)).Nodup) (hu : A.units + 10 < cLine) : RcH X A H v1 v2 true := by
  obtain ⟨a1, d1, k1, rfl, _, e1, f1⟩ := h1
  obtain ⟨a2, d2, k2, rfl, _, e2, f2⟩ := h2
  have hu1 : A.in1.units + 9 < cLine := by show A.units + 1 + 9 < _; omega
  exact .tup (.of e1) (.of e2) (QB.all (.cons (eqH_refl (.str _) (.str _) rfl (by simp only [PyData.depth]; omega)) (.cons (eqH_refl (.int _) (.int _) rfl (by simp only [PyData.depth]; omega)) (.cons (f1.eqH f2 nd hu1) .nil))))
theorem all2_two {α β : Type} {R S : α → β → Prop} {E : β → β → Prop} : ∀ {l : List α} {m n : List β}, All2 R l m → All2 S l n → (∀ a, a ∈ l → ∀ x y, R a x → S a y → E x y) → All2 E m n
  | _, _, _, .nil, h, _ => by
    cases h
    exact .nil
  | _, _, _, .cons h t, h2, k => by
    cases h2 with
    | cons h' t' => exact .cons (k _ List.mem_cons_self _ _ h h') (all2_two t t' fun a ha => k a (List.mem_cons_of_mem _ ha))
theorem ThsR.rcH {rows : List Row} {ts : List Tg} {L1 L2 : Addr} (hok : SchOk rows) (h1 : ThsR F false H rows ts L1) (h2 : ThsR G false H rows ts L2) (hkn : ∀ t, t ∈ ts → t.kind ∈ names rows) (hu : A.units + 12 < cLine) : RcH X A H (.ref L1) (.ref L2) true := by
  obtain ⟨v1, _, e1, a1⟩ := h1
  obtain ⟨v2, _, e2, a2⟩ := h2
  refine .lst (.of e1) (.of e2) (by rw [← a1.len, ← a2.len]) (QB.all (all2_two a1 a2 fun t ht x y r1 r2 => ?_))
  exact (r1.rcH r2 (fields_names hok (hkn t ht)) (by show A.units + 1 + 10 < _; omega)).eqH (by show A.units + 1 < _; omega) (fun z => by cases z)
end
theorem r_neH {X : Cx} {x y : V} {H : Hp} {Q : L2.VK} {c : Bool} (h : RcH X X.A H x y c) (q : Q (.bl (!c)) H) : rNeH X x y H Q := ⟨c, h, q⟩
theorem r_keysC {td : TE} {i : Nat} {x : Str} {σ : St} {H : Hp} {Q : L2.VK} {d : Addr} {kvs : List (Key × V)} {ks : List Str} (e : H d = some (.dK kvs)) (hk : kvs.map (·.1) = ks.map Sum.inr) (few : kvs.length ≤ 1000) (hi : i < σ.length)
    (htd : ∀ (R : L2.VK) od, R (.ref d) (upd H d (.frz od (.dK kvs))) → td σ (upd H d (.frz od (.dK kvs))) R)
    (k : ∀ q H', Same H H' → H q = none → H' q = some (.lst (ks.map V.str)) → Q (.ref q) H') : tLockE (tLc (iKeys td) (gName i) tYes (tVar i) (List.map (fun x => x.2) [(x, i)])) σ H Q := by
  refine r_lockE e (fun od => ?_)
  have efz : (upd H d (.frz od (.dK kvs))) d = some (.frz od (.dK kvs)) := upd_same
  have hl : kvs.length = ks.length := by
    have := congrArg List.length hk
    simpa using this
  refine r_lc ?_
  refine r_iky ?_
  refine htd _ od ?_
  refine r_ikyK efz ?_
  refine r_lcW walk_keys ks hl.symm (fun _ => true) (fun n y _ => y = V.str n) (fun _ _ _ _ h _ => h) (fun _ s => s _ _ efz) (by rw [PySem.sizeLine_eq]; omega) (fun D j n y Hi Hj acc Kt Kf hD ha sI eD yy kt kf => ?_) (fun q ys H1 n1 s1 e1 hr1 => ?_)
  · obtain ⟨rfl, k0, v, hkv, rfl⟩ := yy
    have z : (kvs.map (·.1))[j]? = some k0 := by rw [List.getElem?_map, hkv]; rfl
    rw [hk, List.getElem?_map, ha] at z
    cases z
    refine ⟨wipe_set1, ?_⟩
    show if true = true then tVar i ((wipe σ (List.map (fun x => x.2) [(x, i)])).set i (some (V.str n))) Hj Kt else Kf Hj
    rw [if_pos rfl]
    refine ⟨V.str n, ?_, kt rfl _ _ (Same.refl _) rfl⟩
    rw [List.getElem?_set_self (by rw [wipe_length]; exact hi)]
  · rw [List.filter_eq_self.mpr (fun _ _ => rfl)] at hr1
    have hys := all2_map hr1
    have nqd : q ≠ d := fun z => by
      rw [z, efz] at n1
      cases n1
    have n1' : H q = none := by
      rw [upd_ne nqd] at n1
      exact n1
    refine ⟨s1 _ _ efz, ?_⟩
    exact k q _ (same_lock e s1) n1' (by rw [upd_ne nqd, e1, hys])
theorem all2_idx {α β : Type} {R : α → β → Prop} : ∀ {l : List α} {m : List β}, l.length = m.length → (∀ (i : Nat) a b, l[i]? = some a → m[i]? = some b → R a b) → All2 R l m
  | [], [], _, _ => .nil
  | [], _ :: _, h, _ => by cases h
  | _ :: _, [], h, _ => by cases h
  | a :: l, b :: m, h, k => .cons (k 0 a b rfl rfl) (all2_idx (by simpa using h) fun i x y h1 h2 => k (i + 1) x y (by simpa using h1) (by simpa using h2))
theorem putK_keys {kvs : List (Key × V)} {k : Key} {v x : V} (h : valV kvs k = some x) : (putK kvs k v).map (·.1) = kvs.map (·.1) ∧ ∀ kv, kv ∈ putK kvs k v → kv.2 = v ∨ kv ∈ kvs := by
  unfold putK
  rw [valV_any, h, if_pos (show (some x).isSome = true from rfl)]
  refine ⟨?_, fun kv hkv => ?_⟩
  · rw [List.map_map]
    apply List.map_congr_left
    intro kv _
    simp only [Function.comp]
    split <;> rfl
  · obtain ⟨y, hy, e⟩ := List.mem_map.mp hkv
    by_cases z : y.1 = k
    · rw [if_pos z] at e
      exact .inl (by rw [← e])
    · rw [if_neg z] at e
      exact .inr (e ▸ hy)
def SpV (L : Addr) (F : Addr → Prop) (n : Nat) (H : Hp) : V → Prop
  | .non => True
  | .int _ => True
  | .ref a => (∃ xs, H a = some (.tup xs)) ∨ (F a ∧ a ≠ L ∧ ∃ xs, H a = some (.lst xs) ∧ xs.length ≤ n)
  | _ => False
def SpRow (L : Addr) (F : Addr → Prop) (n : Nat) (H : Hp) (v : V) : Prop := ∃ (a d : Addr) (k : Str) (tg : Int) (ks : List Str) (kvs : List (Key × V)), v = .ref a ∧ H a = some (.tup [.str k, .int tg, .ref d]) ∧ F d ∧ H d = some (.dK kvs) ∧ kvs.map (·.1) = ks.map Sum.inr ∧ ks.length ≤ 1000 ∧ ∀ kv, kv ∈ kvs → SpV L F n H kv.2
theorem SpV.same {L : Addr} {F : Addr → Prop} {n m : Nat} {H H' : Hp} {v : V} (h : SpV L F n H v) (s : Same H H') (hm : n ≤ m) : SpV L F m H' v := by
  cases v with
  | ref a =>
    rcases h with ⟨xs, h⟩ | ⟨h1, h2, xs, h3, h4⟩
    · exact .inl ⟨xs, s _ _ h⟩
    · exact .inr ⟨h1, h2, xs, s _ _ h3, Nat.le_trans h4 hm⟩
  | _ => exact h
theorem SpRow.same {L : Addr} {F : Addr → Prop} {n m : Nat} {H H' : Hp} {v : V} (h : SpRow L F n H v) (s : Same H H') (hm : n ≤ m) : SpRow L F m H' v := by
  obtain ⟨a, d, k, tg, ks, kvs, e, ea, fd, ed, h1, h2, h3⟩ := h
  exact ⟨a, d, k, tg, ks, kvs, e, s _ _ ea, fd, s _ _ ed, h1, h2, fun kv hkv => (h3 kv hkv).same s hm⟩
theorem SpV.app {L p : Addr} {F : Addr → Prop} {n : Nat} {H : Hp} {v x : V} {ys : List V} (h : SpV L F n H v) (e : H p = some (.lst ys)) (hy : ys.length ≤ n) : SpV L F (n + 1) (upd H p (.lst (ys ++ [x]))) v := by
  cases v with
  | ref a =>
    rcases h with ⟨xs, h⟩ | ⟨h1, h2, xs, h3, h4⟩
    · refine .inl ⟨xs, ?_⟩
      rw [upd_ne (fun z => by rw [z, e] at h; cases h)]
      exact h
    · by_cases z : a = p
      · subst z
        exact .inr ⟨h1, h2, _, upd_same, by rw [List.length_append, List.length_cons, List.length_nil]; omega⟩
      · exact .inr ⟨h1, h2, xs, by rw [upd_ne z]; exact h3, by omega⟩
  | _ => exact h
theorem SpRow.app {L p : Addr} {F : Addr → Prop} {n : Nat} {H : Hp} {v x : V} {ys : List V} (h : SpRow L F n H v) (e : H p = some (.lst ys)) (hy : ys.length ≤ n) : SpRow L F (n + 1) (upd H p (.lst (ys ++ [x]))) v := by
  obtain ⟨a, d, k, tg, ks, kvs, ev, ea, fd, ed, h1, h2, h3⟩ := h
  refine ⟨a, d, k, tg, ks, kvs, ev, ?_, fd, ?_, h1, h2, fun kv hkv => (h3 kv hkv).app e hy⟩
  · rw [upd_ne (fun z => by rw [z, e] at ea; cases ea)]
    exact ea
  · rw [upd_ne (fun z => by rw [z, e] at ed; cases ed)]
    exact ed
theorem SpV.put {L p : Addr} {F : Addr → Prop} {n : Nat} {H : Hp} {v : V} {kvs kvs' : List (Key × V)} (h : SpV L F n H v) (e : H p = some (.dK kvs)) : SpV L F n (upd H p (.dK kvs')) v := by
  cases v with
  | ref a =>
    rcases h with ⟨xs, h⟩ | ⟨h1, h2, xs, h3, h4⟩
    · refine .inl ⟨xs, ?_⟩
      rw [upd_ne (fun z => by rw [z, e] at h; cases h)]
      exact h
    · refine .inr ⟨h1, h2, xs, ?_, h4⟩
      rw [upd_ne (fun z => by rw [z, e] at h3; cases h3)]
      exact h3
  | _ => exact h
theorem SpRow.put {L p : Addr} {F : Addr → Prop} {n : Nat} {H : Hp} {v x : V} {kvs : List (Key × V)} {nm : Str} (h : SpRow L F n H v) (e : H p = some (.dK kvs)) (hx : valV kvs (.inr nm) = some x) : SpRow L F n (upd H p (.dK (putK kvs (.inr nm) .non))) v := by
  obtain ⟨a, d, k, tg, ks, kv1, ev, ea, fd, ed, h1, h2, h3⟩ := h
  have nap : a ≠ p := fun z => by
    rw [z, e] at ea
    cases ea
  obtain ⟨g1, g2⟩ := putK_keys (v := .non) hx
  by_cases z : d = p
  · subst z
    rw [e] at ed
    cases ed
    refine ⟨a, d, k, tg, ks, _, ev, by rw [upd_ne nap]; exact ea, fd, upd_same, by rw [g1]; exact h1, h2, fun kv hkv => ?_⟩
    rcases g2 kv hkv with q | q
    · rw [q]
      trivial
    · exact (h3 kv q).put e
  · exact ⟨a, d, k, tg, ks, kv1, ev, by rw [upd_ne nap]; exact ea, fd, by rw [upd_ne z]; exact ed, h1, h2, fun kv hkv => (h3 kv hkv).put e⟩
theorem SpV.sub {L : Addr} {F G : Addr → Prop} {n : Nat} {H : Hp} {v : V} (h : SpV L F n H v) (k : ∀ a o, F a → H a = some o → G a) : SpV L G n H v := by
  cases v with
  | ref a =>
    rcases h with ⟨xs, h⟩ | ⟨h1, h2, xs, h3, h4⟩
    · exact .inl ⟨xs, h⟩
    · exact .inr ⟨k _ _ h1 h3, h2, xs, h3, h4⟩
  | _ => exact h
theorem SpRow.sub {L : Addr} {F G : Addr → Prop} {n : Nat} {H : Hp} {v : V} (h : SpRow L F n H v) (k : ∀ a o, F a → H a = some o → G a) : SpRow L G n H v := by
  obtain ⟨a, d, kd, tg, ks, kvs, e, ea, fd, ed, h1, h2, h3⟩ := h
  exact ⟨a, d, kd, tg, ks, kvs, e, ea, k _ _ fd ed, ed, h1, h2, fun kv hkv => (h3 kv hkv).sub k⟩
structure SpInv (L q2 a d : Addr) (tp : List V) (F G : Addr → Prop) (xs : List V) (ks : List Str) (H : Hp) (m : Nat) (H' : Hp) : Prop where
  fr : Frm F H H'
  eL : H' L = some (.lst xs)
  eq : H' q2 = some (.lst (ks.map V.str))
  rws : ∀ x, x ∈ xs → SpRow L G m H' x
  ea : H' a = some (.tup tp)
  ed : ∃ kvs, H' d = some (.dK kvs) ∧ kvs.map (·.1) = ks.map Sum.inr ∧ ∀ kv, kv ∈ kvs → SpV L G m H' kv.2
theorem SpInv.le {L q2 a d : Addr} {tp : List V} {F G : Addr → Prop} {xs : List V} {ks : List Str} {H H' : Hp} {m n : Nat} (h : SpInv L q2 a d tp F G xs ks H m H') (hm : m ≤ n) : SpInv L q2 a d tp F G xs ks H n H' :=
  ⟨h.fr, h.eL, h.eq, fun x hx => (h.rws x hx).same (Same.refl _) hm, h.ea, by
    obtain ⟨kvs, e, k, hh⟩ := h.ed
    exact ⟨kvs, e, k, fun kv hkv => (hh kv hkv).same (Same.refl _) hm⟩⟩
theorem SpInv.app {L q2 a d p : Addr} {tp : List V} {F G : Addr → Prop} {xs ys : List V} {x : V} {ks : List Str} {H H' : Hp} {m : Nat} (h : SpInv L q2 a d tp F G xs ks H m H') (e : H' p = some (.lst ys)) (hy : ys.length ≤ m) (fp : F p) (nL : p ≠ L) (nq : p ≠ q2) : SpInv L q2 a d tp F G xs ks H (m + 1) (upd H' p (.lst (ys ++ [x]))) :=
  ⟨h.fr.put fp, by rw [upd_ne nL.symm]; exact h.eL, by rw [upd_ne nq.symm]; exact h.eq, fun y hy' => (h.rws y hy').app e hy, by
    rw [upd_ne (fun z => by have := h.ea; rw [z, e] at this; cases this)]
    exact h.ea, by
    obtain ⟨kvs, ed, k, hh⟩ := h.ed
    exact ⟨kvs, by rw [upd_ne (fun z => by rw [z, e] at ed; cases ed)]; exact ed, k, fun kv hkv => (hh kv hkv).app e hy⟩⟩
theorem SpInv.put {L q2 a d : Addr} {tp : List V} {F G : Addr → Prop} {xs : List V} {ks : List Str} {H H' : Hp} {m : Nat} {kvs : List (Key × V)} {nm : Str} {x : V} (h : SpInv L q2 a d tp F G xs ks H m H') (e : H' d = some (.dK kvs)) (hx : valV kvs (.inr nm) = some x) (fd : F d) : SpInv L q2 a d tp F G xs ks H m (upd H' d (.dK (putK kvs (.inr nm) .non))) :=
  ⟨h.fr.put fd, by rw [upd_ne (fun z => by have := h.eL; rw [z, e] at this; cases this)]; exact h.eL, by rw [upd_ne (fun z => by have := h.eq; rw [z, e] at this; cases this)]; exact h.eq, fun y hy' => (h.rws y hy').put e hx, by
    rw [upd_ne (fun z => by have := h.ea; rw [z, e] at this; cases this)]
    exact h.ea, by
    obtain ⟨kv1, ed, k, hh⟩ := h.ed
    rw [e] at ed
    cases ed
    obtain ⟨g1, g2⟩ := putK_keys (v := .non) hx
    refine ⟨_, upd_same, by rw [g1]; exact k, fun kv hkv => ?_⟩
    rcases g2 kv hkv with q | q
    · rw [q]
      trivial
    · exact (hh kv q).put e⟩
end Wm
namespace Wm
open PySem PySem.Spec L2 ClX
open PyProof.Rows hiding St
section
variable {X : Cx} {CX : CXT} {k n : Nat} {C p g : Addr} {mc : Value} {fd : FuncData} {ps ks : List Str} {sp : Sp} {E : XK} {m : Str} {pos apos : Pos} {o e : Expr} {es : List Expr} {kws : List Keyword} {ta : TE} {t tk : TA} {gg : List Value → List Value → List Value} {gV : List V → List V → List V} {pl : Sem Bool}
end
theorem PenStep.frm2 {p c : Addr} {F : Addr → Prop} {H6 H9 H10 : Hp} (hp : PenAt H6 p c) (a : PenStep p c H6 H9) (f : Frm F H9 H10) (hF : ∀ b, F b → H6 b = none) : PenStep p c H6 H10 := by
  have np : ¬ F p := fun z => by
    obtain ⟨o, ho⟩ := hp.some_p
    rw [hF _ z] at ho
    cases ho
  have nc : ¬ F c := fun z => by
    obtain ⟨o, ho⟩ := hp.some_c
    rw [hF _ z] at ho
    cases ho
  refine ⟨?_, fun b o nb e => f b o (fun z => ?_) (a.keep b o nb e)⟩
  · obtain ⟨ns, x, r, g, m, t, h1, h2, h3⟩ := a.pen.ex
    exact ⟨ns, x, r, g, m, t, f _ _ np h1, f _ _ nc h2, h3⟩
  · rw [hF _ z] at e
    cases e
theorem FvR.spV {L : Addr} {F : Addr → Prop} {b : Bool} {H : Hp} {x : FV} {v : V} (h : FvR (fun a => F a ∧ a ≠ L) b H x v) (hl : x.nums.length ≤ 2000) : SpV L F 2000 H v := by
  rcases x with (_ | n) | l
  · cases h
    trivial
  · cases h
    trivial
  · obtain ⟨a, rfl, ⟨f, nl⟩, h | ⟨_, h⟩⟩ := h
    · exact .inr ⟨f, nl, _, h, by rw [numsV_len]; exact hl⟩
    · exact .inl ⟨_, h⟩
theorem keys_split {fs : List Fld4} : ∀ {kvs : List (Key × V)}, (∀ kv, kv ∈ kvs → kv.1 ∈ keysF fs) → ∃ ks : List Str, kvs.map (·.1) = ks.map Sum.inr
  | [], _ => ⟨[], rfl⟩
  | kv :: r, h => by
    obtain ⟨ks, e⟩ := keys_split (kvs := r) fun x hx => h x (List.mem_cons_of_mem _ hx)
    have h1 := h kv List.mem_cons_self
    unfold keysF at h1
    obtain ⟨f, _, hf⟩ := List.mem_map.mp h1
    exact ⟨f.1 :: ks, by rw [List.map_cons, e, ← hf]; rfl⟩
theorem RowS.sp {L : Addr} {F : Addr → Prop} {H : Hp} {rows : List Row} {ks : List (Option Str)} {t : Tg} {v : V} (h : RowS (fun a => F a ∧ a ≠ L) H rows t v) (ht : TgOk rows ks t) : SpRow L F 2000 H v := by
  obtain ⟨a, d, kvs, rfl, fa, ea, hd⟩ := h
  obtain ⟨kk, hk⟩ := keys_split hd.keys
  refine ⟨a, d, t.kind, t.tag, kk, kvs, rfl, ea, hd.fp.1, hd.at_, hk, ?_, fun kv hkv => ?_⟩
  · have := congrArg List.length hk
    rw [List.length_map, List.length_map] at this
    have := hd.few
    omega
  · obtain ⟨j, hj⟩ := List.mem_iff_getElem?.mp hkv
    obtain ⟨i, f, x, hf, hx, _, hv⟩ := hd.at hj
    obtain ⟨x', hx', _, hl⟩ := ht.vs.left hf
    rw [hx] at hx'
    cases hx'
    exact hv.spV (by omega)
theorem RowR.sp {L : Addr} {F : Addr → Prop} {b : Bool} {H : Hp} {rows : List Row} {ks : List (Option Str)} {t : Tg} {v : V} (h : RowR (fun a => F a ∧ a ≠ L) b H rows t v) (ht : TgOk rows ks t) (hfl : (fieldsF rows t.kind).length ≤ 1000) : SpRow L F 2000 H v := by
  obtain ⟨a, d, kvs, rfl, fa, ea, hd⟩ := h
  refine ⟨a, d, t.kind, t.tag, (fieldsF rows t.kind).map (·.1), kvs, rfl, ea, hd.fp.1, hd.at_, by rw [hd.keys, List.map_map]; rfl, ?_, fun kv hkv => ?_⟩
  · rw [List.length_map]
    exact hfl
  · have hm : kv.2 ∈ kvs.map (·.2) := List.mem_map_of_mem hkv
    obtain ⟨x, hx, hv⟩ := all2_snd hd.vs _ hm
    obtain ⟨i, hi⟩ := List.mem_iff_getElem?.mp hx
    obtain ⟨f, hf, _, hl⟩ := ht.vs.right hi
    exact hv.spV (by omega)
theorem RowR.ne {L : Addr} {F : Addr → Prop} {b : Bool} {H : Hp} {rows : List Row} {t : Tg} {v : V} {r : Addr} {rest : List V} (h : RowR F b H rows t v) (e : H L = some (.lst (.ref r :: rest))) : RowR (fun a => F a ∧ a ≠ L) b H rows t v := by
  obtain ⟨a, d, kvs, rfl, fa, ea, hd⟩ := h
  refine ⟨a, d, kvs, rfl, ⟨fa, fun z => by rw [z, e] at ea; cases ea⟩, ea, hd.at_, ⟨hd.fp, fun z => by have := hd.at_; rw [z, e] at this; cases this⟩, hd.keys, hd.vs.mono fun x v hx => ?_⟩
  rcases x with (_ | n) | l
  · exact hx
  · exact hx
  · obtain ⟨q, rfl, f, hq⟩ := hx
    refine ⟨q, rfl, ⟨f, fun z => ?_⟩, hq⟩
    rw [z, e] at hq
    rcases hq with hq | ⟨_, hq⟩
    · have := HO.lst.inj (Option.some.inj hq)
      cases l with
      | nil => cases this
      | cons m ms => cases this
    · cases hq
end Wm
namespace L2
open PySem PySem.Spec PyProof.Rows GenW
section
variable {prog : Program} {w : World} {A : Around} {R : GenEnd} {Y : Protocol} {n : Nat} {s₀ : Shared} {c : Code} {fs : List Frame} {s : Shared} {env : Env}
  {K : Flow → Sem PySem.Fin} {J : Value → Sem PySem.Fin} {gd : Bool → Bool} {lv : List Value → List Value}

end
section
variable {X : Cx}
end
end L2
namespace Wm
open PySem L2 PySem.Spec PyProof.Rows GenW
end Wm
namespace Wm
open PySem L2 PySem.Spec PyProof.Rows GenW
def EachAt (H0 H : Hp) (ts : List Tg) (ys : List V) : Prop := ys.length = ts.length ∧ ∀ (i : Nat) t, ts[i]? = some t → ∃ a, ys[i]? = some (.ref a) ∧ H0 a = none ∧ H a = some (.tup [.int i, .str t.kind, .int t.tag])
structure OddN (n : Nat) (H : Hp) (v : V) : Prop where
  int : ∃ b, IntV H v b
  no : ∀ k : Nat, v = .int k → ¬ k < n
theorem OddN.same {n : Nat} {H H' : Hp} {v : V} (h : OddN n H v) (s : Same H H') : OddN n H' v := by
  obtain ⟨⟨b, hb⟩, h2⟩ := h
  exact ⟨⟨b, hb.same s⟩, h2⟩
theorem AnyV.eqH {X : Cx} {A : Around} {H : Hp} {v : V} (h : AnyV H v) (hu : A.units + 8 < cLine) : EqH X A H v v true := by
  cases v with
  | non => exact eqH_refl .non .non rfl (Nat.lt_of_le_of_lt (Nat.add_le_add_left (show PyData.none.depth ≤ 8 by decide) _) hu)
  | bl b => exact eqH_refl (.bl b) (.bl b) rfl (Nat.lt_of_le_of_lt (Nat.add_le_add_left (show (PyData.bool b).depth ≤ 8 by cases b <;> decide) _) hu)
  | int i => exact eqH_refl (.int i) (.int i) rfl (Nat.lt_of_le_of_lt (Nat.add_le_add_left (show (PyData.int i).depth ≤ 8 from Nat.zero_le _) _) hu)
  | str x => exact eqH_refl (.str x) (.str x) rfl (Nat.lt_of_le_of_lt (Nat.add_le_add_left (show (PyData.str x).depth ≤ 8 from Nat.zero_le _) _) hu)
  | ref a => exact EqH.refl
  | _ => exact h.elim
theorem held_take {t : Tg} {i : Nat} {x : FV} (hx : t.vals[i]? = some x) : ((t.vals.take i).flatMap FV.nums).length + x.nums.length ≤ (heldT t).length := by
  have e : heldT t = (t.vals.take i).flatMap FV.nums ++ (x.nums ++ (t.vals.drop (i + 1)).flatMap FV.nums) := by
    unfold heldT
    have e0 : t.vals = t.vals.take i ++ x :: t.vals.drop (i + 1) := by
      obtain ⟨hi', hx'⟩ := List.getElem?_eq_some_iff.mp hx
      rw [← hx', ← List.drop_eq_getElem_cons hi', List.take_append_drop]
    conv => lhs; rw [e0]
    rw [List.flatMap_append, List.flatMap_cons]
  have := congrArg List.length e
  rw [List.length_append, List.length_append] at this
  omega
section
variable {X : Cx} {A : Around} {H : Hp}
end
theorem EachAt.same {H0 H H' : Hp} {ts : List Tg} {ys : List V} (h : EachAt H0 H ts ys) (s : Same H H') : EachAt H0 H' ts ys := ⟨h.1, fun i t ht => by
  obtain ⟨a, h1, h2, h3⟩ := h.2 i t ht
  exact ⟨a, h1, h2, s _ _ h3⟩⟩
structure W13 (C p c S g1 g2 : Addr) (FG FE : Addr → Prop) (rows : List Row) (ts : List Tg) (H8 : Hp) (root : Int) (H : Hp) : Prop where
  st : PenStep p c H8 H
  g1 : GrAt C FG H S rows ts root g1
  g2 : GrAt C FE H S rows [] 0 g2
theorem W13.same {C p c S g1 g2 : Addr} {FG FE : Addr → Prop} {rows : List Row} {ts : List Tg} {H8 H H' : Hp} {root : Int} (h : W13 C p c S g1 g2 FG FE rows ts H8 root H) (s : Same H H') : W13 C p c S g1 g2 FG FE rows ts H8 root H' :=
  ⟨h.st.same s, h.g1.kps (.of s), h.g2.kps (.of s)⟩
theorem W13.step {C p c S g1 g2 : Addr} {FG FE : Addr → Prop} {rows : List Row} {ts : List Tg} {H8 H H' : Hp} {root : Int} (h : W13 C p c S g1 g2 FG FE rows ts H8 root H) (s : PenStep p c H H') (n1 : ¬ FG p) (n2 : ¬ FE p) : W13 C p c S g1 g2 FG FE rows ts H8 root H' :=
  ⟨h.st.trans s, h.g1.kps (s.kps n1), h.g2.kps (s.kps n2)⟩
end Wm
namespace Wm
open PySem L2
def hT (ts : List Tg) (x : Nat) : List Nat := match ts[x]? with
  | some t => heldT t
  | none => []
theorem hT_at {ts : List Tg} {x : Nat} {t : Tg} (h : ts[x]? = some t) : hT ts x = heldT t := by
  unfold hT
  rw [h]
def unm (ts : List Tg) (m : List Nat) : Nat := ((List.range ts.length).map fun x => if x ∈ m then 0 else (hT ts x).length).sum
def metF (ts : List Tg) : Nat → List Nat → List Nat → List Nat
  | 0, _, m => m
  | _ + 1, [], m => m
  | f + 1, x :: st, m => if x ∈ m then metF ts f st m else metF ts f (hT ts x ++ st) (m ++ [x])
theorem sum_put0 {n x : Nat} {f g : Nat → Nat} (hx : x < n) (he : ∀ y, y < n → y ≠ x → f y = g y) (hf : f x = 0) : ((List.range n).map f).sum + g x = ((List.range n).map g).sum := by
  induction n with
  | zero => omega
  | succ n ih =>
    rw [List.range_succ, List.map_append, List.map_append, List.sum_append, List.sum_append]
    simp only [List.map_cons, List.map_nil, List.sum_cons, List.sum_nil]
    by_cases h : x = n
    · subst h
      have e : (List.range x).map f = (List.range x).map g := List.map_congr_left fun y hy => he y (by have := List.mem_range.mp hy; omega) (by have := List.mem_range.mp hy; omega)
      rw [e, hf]
      omega
    · have := ih (by omega) (fun y hy => he y (by omega))
      have h2 := he n (by omega) (by omega)
      omega
theorem unm_add {ts : List Tg} {m : List Nat} {x : Nat} (hx : x < ts.length) (hm : x ∉ m) : unm ts (m ++ [x]) + (hT ts x).length = unm ts m := by
  unfold unm
  have := sum_put0 (n := ts.length) (x := x) (f := fun y => if y ∈ m ++ [x] then 0 else (hT ts y).length) (g := fun y => if y ∈ m then 0 else (hT ts y).length) hx (fun y _ hy => by
    simp only [List.mem_append, List.mem_singleton]
    by_cases h : y ∈ m
    · simp [h]
    · simp [h, hy]) (by simp)
  simpa [hm] using this
theorem unm_nil (ts : List Tg) : unm ts [] = heldN ts := by
  unfold unm heldN
  have : (List.range ts.length).map (fun x => if x ∈ ([] : List Nat) then 0 else (hT ts x).length) = ts.map fun t => (heldT t).length := by
    apply List.ext_getElem?
    intro i
    rw [List.getElem?_map, List.getElem?_map]
    by_cases h : i < ts.length
    · rw [List.getElem?_range h, List.getElem?_eq_getElem h]
      simp only [Option.map_some]
      rw [hT_at (List.getElem?_eq_getElem h)]
      simp
    · rw [List.getElem?_eq_none (by simpa using h), List.getElem?_eq_none (by omega)]
      rfl
  rw [this]
def reachF (ts : List Tg) (b : Nat) : List Nat := metF ts (1 + heldN ts) [b] []
structure Met (ts : List Tg) (b : Nat) (st m : List Nat) : Prop where
  wait : ∀ x, x ∈ st → x < ts.length
  met : ∀ x, x ∈ m → x < ts.length
  nd : m.Nodup
  less : m.length + st.length + unm ts m ≤ 1 + heldN ts
  fin : metF ts (st.length + unm ts m) st m = reachF ts b
  cl : ∀ x, x ∈ m → ∀ y, y ∈ hT ts x → y ∈ m ∨ y ∈ st
  rt : (m = [] ∧ st = [b]) ∨ ∃ r, m = b :: r
  sum : (m.map fun x => (hT ts x).length).sum + unm ts m = heldN ts
theorem Met.start {ts : List Tg} {b : Nat} (h : b < ts.length) : Met ts b [b] [] :=
  ⟨fun x hx => by rw [List.mem_singleton.mp hx]; exact h, fun x hx => (by cases hx), List.nodup_nil, by rw [unm_nil]; simp, by unfold reachF; rw [unm_nil]; rfl, fun x hx => (by cases hx), .inl ⟨rfl, rfl⟩, by rw [unm_nil]; simp⟩
theorem Met.skip {ts : List Tg} {b x : Nat} {st m : List Nat} (h : Met ts b (x :: st) m) (hx : x ∈ m) (hc : ∀ x y, x < ts.length → y ∈ hT ts x → y < ts.length) : Met ts b st m ∧ st.length + unm ts m < (x :: st).length + unm ts m := by
  refine ⟨⟨fun y hy => h.wait y (by simp [hy]), h.met, h.nd, by have := h.less; simp only [List.length_cons] at this; omega, ?_, fun y hy z hz => ?_, ?_, h.sum⟩, by simp⟩
  · rw [← h.fin]
    have e : (x :: st).length + unm ts m = (st.length + unm ts m) + 1 := by simp only [List.length_cons]; omega
    rw [e]
    simp only [metF]
    rw [if_pos hx]
  · rcases h.cl y hy z hz with h1 | h1
    · exact .inl h1
    · rcases List.mem_cons.mp h1 with h1 | h1
      · exact .inl (h1 ▸ hx)
      · exact .inr h1
  · rcases h.rt with ⟨h1, _⟩ | h1
    · rw [h1] at hx
      cases hx
    · exact .inr h1
theorem Met.take {ts : List Tg} {b x : Nat} {st m : List Nat} (h : Met ts b (x :: st) m) (hx : x ∉ m) (hc : ∀ x y, x < ts.length → y ∈ hT ts x → y < ts.length) : Met ts b (hT ts x ++ st) (m ++ [x]) ∧ (hT ts x ++ st).length + unm ts (m ++ [x]) < (x :: st).length + unm ts m := by
  have hxl := h.wait x (by simp)
  have hu := unm_add hxl hx
  have hn : (hT ts x ++ st).length + unm ts (m ++ [x]) = st.length + unm ts m := by
    rw [List.length_append]
    omega
  refine ⟨⟨fun y hy => ?_, fun y hy => ?_, ?_, by have := h.less; simp only [List.length_cons, List.length_append, List.length_nil] at this hn ⊢; omega, ?_, fun y hy z hz => ?_, ?_, ?_⟩, by rw [hn]; simp⟩
  · rcases List.mem_append.mp hy with hy | hy
    · exact hc x y hxl hy
    · exact h.wait y (by simp [hy])
  · rcases List.mem_append.mp hy with hy | hy
    · exact h.met y hy
    · rw [List.mem_singleton.mp hy]; exact hxl
  · rw [List.nodup_append]
    exact ⟨h.nd, by simp, fun a ha b hb z => by rw [List.mem_singleton.mp hb] at z; exact hx (z ▸ ha)⟩
  · rw [hn, ← h.fin]
    have e : (x :: st).length + unm ts m = (st.length + unm ts m) + 1 := by simp only [List.length_cons]; omega
    rw [e]
    simp only [metF]
    rw [if_neg hx]
  · rcases List.mem_append.mp hy with hy | hy
    · rcases h.cl y hy z hz with h1 | h1
      · exact .inl (List.mem_append_left _ h1)
      · rcases List.mem_cons.mp h1 with h1 | h1
        · exact .inl (List.mem_append_right _ (List.mem_singleton.mpr h1))
        · exact .inr (List.mem_append_right _ h1)
    · rw [List.mem_singleton.mp hy] at hz
      exact .inr (List.mem_append_left _ hz)
  · rcases h.rt with ⟨h1, h2⟩ | ⟨r, h1⟩
    · have e1 : x = b := by
        have := congrArg List.head? h2
        simpa using this
      exact .inr ⟨[], by rw [h1, e1]; rfl⟩
    · exact .inr ⟨r ++ [x], by rw [h1]; rfl⟩
  · rw [List.map_append, List.sum_append]
    have := h.sum
    simp only [List.map_cons, List.map_nil, List.sum_cons, List.sum_nil]
    omega
theorem Met.done {ts : List Tg} {b : Nat} {m : List Nat} (h : Met ts b [] m) : m = reachF ts b := by
  rw [← h.fin]
  cases ([] : List Nat).length + unm ts m <;> rfl
theorem inV_nums {x : Nat} {m : List Nat} : inV (.int (x : Nat)) (numsV m) = decide (x ∈ m) := by
  unfold inV numsV
  rw [List.any_map]
  induction m with
  | nil => rfl
  | cons a l ih =>
    rw [List.any_cons, ih]
    show (((a : Int) == (x : Int)) || _) = _
    by_cases e : a = x
    · subst e
      simp
    · have h1 : ((a : Int) == (x : Int)) = false := by
        rw [beq_eq_false_iff_ne]
        omega
      have h2 : x ≠ a := fun z => e z.symm
      simp [h1, h2]
theorem flat_nums (m : List Nat) : (numsV m).all flatV = true := by
  induction m with
  | nil => rfl
  | cons a l ih => exact ih
theorem Met.run {ts : List Tg} {b : Nat} (hc : ∀ x y, x < ts.length → y ∈ hT ts x → y < ts.length) : ∀ (k : Nat) (st m : List Nat), st.length + unm ts m ≤ k → Met ts b st m → Met ts b [] (reachF ts b) := by
  intro k
  induction k with
  | zero =>
    intro st m hk h
    obtain rfl : st = [] := List.length_eq_zero_iff.mp (by omega)
    have := h.done
    rw [← this]
    exact h
  | succ k ih =>
    intro st m hk h
    cases st with
    | nil =>
      have := h.done
      rw [← this]
      exact h
    | cons x st =>
      by_cases hx : x ∈ m
      · obtain ⟨h2, hl⟩ := h.skip hx hc
        exact ih st m (by omega) h2
      · obtain ⟨h2, hl⟩ := h.take hx hc
        exact ih _ _ (by omega) h2
def spLEmpty : Sp := fun vs H Q _ => ∃ (m : Str), vs = [.str m] ∧ ∀ v H', Same H H' → FvR (New H) false H' (emptyFV m) v → Q v H'
end Wm
namespace Wm
open PySem L2
end Wm
namespace Wm
open PySem L2

theorem putK_at {kvs : List (Key × V)} {i : Nat} {kv : Key × V} {v : V} (nd : (kvs.map (·.1)).Nodup) (h : kvs[i]? = some kv) : putK kvs kv.1 v = kvs.set i (kv.1, v) := by
  have hv := valV_at nd h
  unfold putK
  rw [valV_any, hv, if_pos (show (some kv.2).isSome = true from rfl)]
  apply List.ext_getElem?
  intro j
  rw [List.getElem?_map, List.getElem?_set]
  by_cases e : i = j
  · subst e
    have hl := (List.getElem?_eq_some_iff.mp h).1
    rw [if_pos rfl, if_pos hl, h]
    simp
  · rw [if_neg e]
    cases hj : kvs[j]? with
    | none => rfl
    | some y =>
      have ne : y.1 ≠ kv.1 := fun z => e (by
        have e1 : (kvs.map (·.1))[i]? = some kv.1 := by rw [List.getElem?_map, h]; rfl
        have e2 : (kvs.map (·.1))[j]? = some kv.1 := by rw [List.getElem?_map, hj]; simp [z]
        have hl1 := (List.getElem?_eq_some_iff.mp e1).1
        exact (List.getElem?_inj hl1 nd).mp (e1.trans e2.symm))
      simp [ne]
theorem FullD.putV {F : Addr → Prop} {b : Bool} {H : Hp} {fs : List Fld4} {vals : List FV} {d : Addr} {kvs : List (Key × V)} {i : Nat} {f : Fld4} {z : FV} {v : V} (h : FullD F b H fs vals d kvs) (nd : (fs.map (·.1)).Nodup) (hf : fs[i]? = some f) (hv : FvR F b H z v) : FullD F b (upd H d (.dK (putK kvs (.inr f.1) v))) fs (vals.set i z) d (putK kvs (.inr f.1) v) := by
  have hl := (List.getElem?_eq_some_iff.mp hf).1
  obtain ⟨l1, l2⟩ := h.len
  obtain ⟨x, hx⟩ : ∃ x, vals[i]? = some x := ⟨_, List.getElem?_eq_getElem (by omega)⟩
  obtain ⟨kv, hkv, hk, _⟩ := h.at hf hx
  have ndk : (kvs.map (·.1)).Nodup := by
    rw [h.keys]
    unfold keysF
    exact List.pairwise_map.mpr ((List.pairwise_map.mp nd).imp fun h z => h (Sum.inr.inj z))
  have e := putK_at (v := v) ndk hkv
  rw [hk] at e
  refine ⟨upd_same, h.fp, ?_, ?_⟩
  · rw [e, List.map_set]
    show (kvs.map (·.1)).set i (Sum.inr f.1) = _
    have e1 : (kvs.map (·.1))[i]? = some (Sum.inr f.1) := by rw [List.getElem?_map, hkv, ← hk]; rfl
    obtain ⟨h1, h2⟩ := List.getElem?_eq_some_iff.mp e1
    rw [← h2, List.set_getElem_self, h.keys]
  · rw [e, List.map_set]
    refine all2_idx ?_ fun j a y ha hy => ?_
    · rw [List.length_set, List.length_set]
      exact h.vs.len
    · rw [List.getElem?_set] at ha hy
      by_cases z1 : i = j
      · rw [if_pos z1] at ha hy
        split at ha
        · split at hy
          · cases ha
            cases hy
            exact hv.putD h.at_
          · cases hy
        · cases ha
      · rw [if_neg z1] at ha hy
        obtain ⟨y', h1, h2⟩ := h.vs.left ha
        rw [hy] at h1
        cases h1
        exact h2.putD h.at_
def vFV (v : V) (o : Option (List V)) : FV := match o with
  | some xs => .many (xs.map fun x => match x with | .int n => n.toNat | _ => 0)
  | none => match v with
    | .int n => .one (some n.toNat)
    | _ => .one none
theorem val_fv {H : Hp} {rows : List Row} {ks : List (Option Str)} {m t : Str} {v : V} {o : Option (List V)} (hv : ValD H v o) (h : valP rows ks m t v o) : FvR (fun a => ∃ o, H a = some o) true H (vFV v o) v ∧ fvB rows ks m t (vFV v o) = true ∧ (vFV v o).nums.length ≤ 2000 := by
  rcases h with ⟨hm, h⟩ | ⟨hm, xs, rfl, h⟩
  · rcases h with rfl | ⟨n, rfl, hn⟩
    · cases hv
      exact ⟨rfl, by simp [fvB, vFV, hm], by simp [vFV, FV.nums]⟩
    · cases hv
      refine ⟨by simp [vFV, FvR], by simp [fvB, vFV, hm, hn], by simp [vFV, FV.nums]⟩
  · cases hv with
    | sq e hx hl =>
      have key : ∀ (l : List V), (∀ x, x ∈ l → memV rows ks t x) → numsV (l.map fun x => match x with | .int n => n.toNat | _ => 0) = l ∧ ∀ n, n ∈ (l.map fun x => match x with | .int n => n.toNat | _ => 0) → memB rows ks t n = true := by
        intro l
        induction l with
        | nil => intro _; exact ⟨rfl, fun n hn => by cases hn⟩
        | cons a l ih =>
          intro hh
          obtain ⟨n, rfl, hn⟩ := hh a (by simp)
          obtain ⟨i1, i2⟩ := ih fun x hx => hh x (by simp [hx])
          refine ⟨?_, fun k hk => ?_⟩
          · rw [List.map_cons]
            show V.int ((n : Int).toNat : Nat) :: numsV _ = _
            rw [i1]
            simp
          · rw [List.map_cons] at hk
            rcases List.mem_cons.mp hk with rfl | hk
            · simpa using hn
            · exact i2 k hk
      obtain ⟨k1, k2⟩ := key xs h
      have hl2 : ∀ a : Addr, (vFV (.ref a) (some xs)).nums.length ≤ 2000 := fun a => by
        simp only [vFV, FV.nums, List.length_map]
        exact hl
      refine ⟨⟨_, rfl, ?_, ?_⟩, ?_, hl2 _⟩
      · rcases e with e | e
        · exact ⟨_, e⟩
        · exact ⟨_, e⟩
      · rcases e with e | e
        · left
          rw [k1]
          exact e
        · right
          exact ⟨rfl, by rw [k1]; exact e⟩
      · simp only [vFV, fvB, Bool.and_eq_true, Bool.not_eq_true', decide_eq_false_iff_not, List.all_eq_true]
        exact ⟨hm, fun n hn => k2 n hn⟩
theorem kinds_of : ∀ {ts : List Tg} {ys : List V}, All2 (fun (t : Tg) v => v = V.str t.kind) ts ys → ys = (ksOf ts).map okV
  | _, _, .nil => rfl
  | _, _, .cons h t => by
    rw [h, kinds_of t]
    rfl
theorem r_kept {F : Addr → Prop} {rows : List Row} {ks : List (Option Str)} {m t : Str} {z : FV} {v : V} {H : Hp} {Q : L2.VK} {E : XK} (hz : FvR F true H z v) (hb : fvB rows ks m t z = true) (k : ∀ v' H', Same H H' → FvR (New H) false H' z v' → Q v' H') : spKept [.str m, v] H Q E := by
  refine ⟨m, v, rfl, ?_⟩
  rcases z with o | l
  · simp only [fvB, Bool.and_eq_true, decide_eq_true_eq] at hb
    refine .inl ⟨hb.1, k v H (Same.refl _) ?_⟩
    cases o with
    | none => exact hz
    | some n => exact hz
  · simp only [fvB, Bool.and_eq_true, Bool.not_eq_true', decide_eq_false_iff_not] at hb
    obtain ⟨a, rfl, f, h⟩ := hz
    exact .inr ⟨hb.1, a, numsV l, rfl, h.imp id (fun h => h.2), fun q H' s n e => k _ _ s ⟨q, rfl, n, .inl e⟩⟩
end Wm
namespace Wm
open PySem L2
theorem numsV_inj : ∀ {l m : List Nat}, numsV l = numsV m → l = m
  | [], [], _ => rfl
  | [], _ :: _, h => by cases h
  | _ :: _, [], h => by cases h
  | a :: l, b :: m, h => by
    have h1 := (List.cons.inj h).1
    have h2 := numsV_inj (l := l) (m := m) (List.cons.inj h).2
    have := V.int.inj h1
    rw [h2, show a = b from by omega]
theorem FvR.one_of {F G : Addr → Prop} {b c : Bool} {H : Hp} {x y : FV} {v : V} (h : FvR F b H x v) (g : FvR G c H y v) : x = y := by
  rcases x with (_ | n) | l <;> rcases y with (_ | m) | k
  · rfl
  · cases h
    cases g
  · cases h
    obtain ⟨a, e, _⟩ := g
    cases e
  · cases h
    cases g
  · have e : v = .int (n : Nat) := h
    have e2 : v = .int (m : Nat) := g
    rw [e] at e2
    have := V.int.inj e2
    rw [show n = m from by omega]
  · cases h
    obtain ⟨a, e, _⟩ := g
    cases e
  · obtain ⟨a, rfl, _⟩ := h
    cases g
  · obtain ⟨a, rfl, _⟩ := h
    cases g
  · obtain ⟨a, rfl, _, h⟩ := h
    obtain ⟨a2, e, _, g⟩ := g
    cases e
    rcases h with h | ⟨_, h⟩ <;> rcases g with g | ⟨_, g⟩
    · rw [h] at g
      rw [numsV_inj (HO.lst.inj (Option.some.inj g))]
    · rw [h] at g
      cases g
    · rw [h] at g
      cases g
    · rw [h] at g
      rw [numsV_inj (HO.tup.inj (Option.some.inj g))]
theorem empty_ok (rows : List Row) (ks : List (Option Str)) (m t : Str) : fvB rows ks m t (emptyFV m) = true := by
  unfold emptyFV
  by_cases h : m = "one"
  · rw [if_pos h]
    simp [fvB, h]
  · rw [if_neg h]
    simp [fvB, h]
theorem empty_nums (m : Str) : (emptyFV m).nums = [] := by
  unfold emptyFV
  by_cases h : m = "one"
  · rw [if_pos h]
    rfl
  · rw [if_neg h]
    rfl
structure Two (CG p c S g1 g2 : Addr) (F1 F2 : Addr → Prop) (rows : List Row) (ts1 ts2 : List Tg) (r1 r2 : Int) (H8 H : Hp) : Prop where
  st : PenStep p c H8 H
  g1 : GrAt CG F1 H S rows ts1 r1 g1
  l1 : ∀ b, F1 b → ∃ o, H b = some o
  p1 : ¬ F1 p
  g2 : GrAt CG F2 H S rows ts2 r2 g2
  l2 : ∀ b, F2 b → ∃ o, H b = some o
  p2 : ¬ F2 p
  n2 : ∀ b, F2 b → H8 b = none
  dis : ∀ b, F2 b → ¬ F1 b
section
variable {CG p c S g1 g2 : Addr} {F1 F2 : Addr → Prop} {rows : List Row} {ts1 ts2 : List Tg} {r1 r2 : Int} {H8 H H' : Hp}
theorem Two.same (h : Two CG p c S g1 g2 F1 F2 rows ts1 ts2 r1 r2 H8 H) (s : Same H H') : Two CG p c S g1 g2 F1 F2 rows ts1 ts2 r1 r2 H8 H' :=
  ⟨h.st.same s, h.g1.kps (.of s), fun b z => by
    obtain ⟨o, ho⟩ := h.l1 b z
    exact ⟨o, s _ _ ho⟩, h.p1, h.g2.kps (.of s), fun b z => by
    obtain ⟨o, ho⟩ := h.l2 b z
    exact ⟨o, s _ _ ho⟩, h.p2, h.n2, h.dis⟩
theorem Two.step (h : Two CG p c S g1 g2 F1 F2 rows ts1 ts2 r1 r2 H8 H) (s : PenStep p c H H') : Two CG p c S g1 g2 F1 F2 rows ts1 ts2 r1 r2 H8 H' :=
  ⟨h.st.trans s, h.g1.kps (s.kps h.p1), fun b z => by
    obtain ⟨o, ho⟩ := h.l1 b z
    exact ⟨o, s.keep b o (fun q => h.p1 (q ▸ z)) ho⟩, h.p1, h.g2.kps (s.kps h.p2), fun b z => by
    obtain ⟨o, ho⟩ := h.l2 b z
    exact ⟨o, s.keep b o (fun q => h.p2 (q ▸ z)) ho⟩, h.p2, h.n2, h.dis⟩
end
theorem fld_uniq {l : List Fld4} (nd : (l.map (·.1)).Nodup) {f g : Fld4} (hf : f ∈ l) (hg : g ∈ l) (e : f.1 = g.1) : f = g := by
  obtain ⟨i, hi⟩ := List.getElem?_of_mem hf
  obtain ⟨j, hj⟩ := List.getElem?_of_mem hg
  have e1 : (l.map (·.1))[i]? = some f.1 := by rw [List.getElem?_map, hi]; rfl
  have e2 : (l.map (·.1))[j]? = some f.1 := by rw [List.getElem?_map, hj, e]; rfl
  have := (List.getElem?_inj (List.getElem?_eq_some_iff.mp e1).1 nd).mp (e1.trans e2.symm)
  subst this
  rw [hi] at hj
  exact Option.some.inj hj
end Wm
namespace Wm
open PySem L2
open PyProof.Rows hiding St
inductive HB (R : V → V → Bool → Prop) (ls : List (Key × V)) : List (Key × V) → Bool → Prop
  | nil : HB R ls [] true
  | miss {k : Key} {v : V} {r : List (Key × V)} : valV ls k = none → HB R ls ((k, v) :: r) false
  | hit {k : Key} {v u : V} {r : List (Key × V)} {e b : Bool} : valV ls k = some u → R v u e → HB R ls r b → HB R ls ((k, v) :: r) (e && b)
theorem HB.run {P : Program} {w : World} {A : Around} {s : Shared} {R : V → V → Bool → Prop} (ih : ∀ x y v u c, R x y c → RelV x v → RelV y u → SeqAt.EqP P w A s v u c) {ls : List (Key × V)} {vb : List (Key × Value)} (rb : KV ls vb) {ks : List (Key × V)} {r : Bool}
    (h : HB R ls ks r) : ∀ {va : List (Key × Value)}, KV ks va → PySem.W.KeqHitsP P w A s vb va r := by
  induction h with
  | nil =>
    intro va ra
    cases ra
    exact .nil
  | @miss k v r e =>
    intro va ra
    cases ra with
    | @cons p q ps qs h t =>
      obtain ⟨h1, h2⟩ := h
      obtain ⟨key, v⟩ := q
      obtain rfl : k = key := h1
      have rr : RelO none (valueAt vb k) := by rw [← e]; exact rb.val k
      refine .miss ?_
      cases z : valueAt vb k with
      | none => rfl
      | some y =>
        rw [z] at rr
        exact rr.elim
  | @hit k v u r e b e1 f t' ih2 =>
    intro va ra
    cases ra with
    | @cons p q ps qs h t =>
      obtain ⟨h1, h2⟩ := h
      obtain ⟨key, v⟩ := q
      obtain rfl : k = key := h1
      have rr : RelO (some u) (valueAt vb k) := by rw [← e1]; exact rb.val k
      obtain ⟨y, hy, ry⟩ := rr.some_of
      exact .hit hy (ih _ _ _ _ _ f h2 ry) (ih2 t)
def fvD : FV → PyData
  | .one none => .none
  | .one (some n) => .int (n : Nat)
  | .many l => .list (l.map fun n => PyData.int (n : Nat))
theorem FvR.dp {K : PySem.W.Frag} {F : Addr → Prop} {H : Hp} {x : FV} {v : V} (h : FvR F false H x v) : Dp K H v (fvD x) := by
  rcases x with (_ | n) | l
  · cases h
    exact .non
  · cases h
    exact .int _
  · obtain ⟨a, rfl, _, e1 | ⟨z, _⟩⟩ := h
    · exact .lst (.of e1) (dp_nums l)
    · cases z
section
variable {X : Cx} {A : Around} {H : Hp} {F G : Addr → Prop}
end
end Wm
namespace Wm
open PySem L2
theorem memB_snoc {rows : List Row} {ts : List Tg} {t : Tg} {x : Str} {n : Nat} (h : memB rows (ksOf ts) x n = true) : memB rows (ksOf (ts ++ [t])) x n = true := by
  unfold memB ksOf at h ⊢
  rw [List.map_append]
  cases e : (ts.map fun t => some t.kind)[n]? with
  | none =>
    rw [e] at h
    cases h
  | some o =>
    rw [e] at h
    have hl := (List.getElem?_eq_some_iff.mp e).1
    rw [List.getElem?_append_left hl, e]
    exact h
theorem fvB_snoc {rows : List Row} {ts : List Tg} {t : Tg} {m x : Str} {v : FV} (h : fvB rows (ksOf ts) m x v = true) : fvB rows (ksOf (ts ++ [t])) m x v = true := by
  rcases v with (_ | n) | l
  · exact h
  · simp only [fvB, Bool.and_eq_true] at h ⊢
    exact ⟨h.1, memB_snoc h.2⟩
  · simp only [fvB, Bool.and_eq_true, List.all_eq_true] at h ⊢
    exact ⟨h.1, fun n hn => memB_snoc (h.2 n hn)⟩
theorem TgOk.snoc {rows : List Row} {ts : List Tg} {t u : Tg} (h : TgOk rows (ksOf ts) u) : TgOk rows (ksOf (ts ++ [t])) u := ⟨h.kd, h.lo, h.hi, h.vs.mono fun _ _ z => ⟨fvB_snoc z.1, z.2⟩⟩
structure Perm (n : Nat) (l m : List Nat) : Prop where
  nd : (m ++ l).Nodup
  all : ∀ x, x ∈ m ++ l ↔ x < n
  len : m.length + l.length = n
theorem Perm.start (n : Nat) : Perm n (List.range n) [] := ⟨by simpa using List.nodup_range, fun x => by simp, by simp⟩
theorem Perm.done {n : Nat} {l m : List Nat} (h : Perm n l m) (hl : m.length = n) : m.Nodup ∧ ∀ x, x ∈ m ↔ x < n := by
  have := h.len
  have hn : l = [] := List.length_eq_zero_iff.mp (by omega)
  have h1 := h.nd
  have h2 := h.all
  rw [hn, List.append_nil] at h1
  refine ⟨h1, fun x => ?_⟩
  have := h2 x
  rwa [hn, List.append_nil] at this
end Wm
namespace Wm
open PySem L2
theorem RowOk.mono {all more : List Str} {pre : List Row} {r : Row} (h : RowOk all pre r) (s : ∀ x, x ∈ all → x ∈ more) : RowOk more pre r :=
  ⟨h.nm, h.fresh, h.bsub, h.bnd, h.blen, fun f hf => ⟨(h.own f hf).1, (h.own f hf).2.1, s _ (h.own f hf).2.2⟩, h.fnd, h.flen⟩
structure Still (CG p c S g1 g2 : Addr) (F1 F2 : Addr → Prop) (rows : List Row) (ts us : List Tg) (H8 H : Hp) : Prop where
  st : PenStep p c H8 H
  g1 : GrAt CG F1 H S rows ts 0 g1
  p1 : ¬ F1 p
  g2 : GrAt CG F2 H S rows us 0 g2
  p2 : ¬ F2 p
section
variable {CG p c S g1 g2 : Addr} {F1 F2 : Addr → Prop} {rows : List Row} {ts us : List Tg} {H8 H H' : Hp}
theorem Still.same (h : Still CG p c S g1 g2 F1 F2 rows ts us H8 H) (s : Same H H') : Still CG p c S g1 g2 F1 F2 rows ts us H8 H' := ⟨h.st.same s, h.g1.kps (.of s), h.p1, h.g2.kps (.of s), h.p2⟩
theorem Still.step (h : Still CG p c S g1 g2 F1 F2 rows ts us H8 H) (s : PenStep p c H H') : Still CG p c S g1 g2 F1 F2 rows ts us H8 H' := ⟨h.st.trans s, h.g1.kps (s.kps h.p1), h.p1, h.g2.kps (s.kps h.p2), h.p2⟩
end
theorem AnyV.stepP {p c : Addr} {H H' : Hp} {v : V} (h : AnyV H v) (s : PenStep p c H H') : AnyV H' v := by
  by_cases e : v = .ref p
  · subst e
    obtain ⟨ns, a, r, g, m, t, hp, _⟩ := s.pen.ex
    exact .inr (.inr ⟨_, hp⟩)
  · exact h.step e s
theorem IntV.stepP {p c : Addr} {H H' : Hp} {v : V} {b : Bool} (h : IntV H v b) (s : PenStep p c H H') : IntV H' v b := by
  rcases h with h | ⟨h1, h2⟩
  · exact .inl h
  · exact .inr ⟨h1.stepP s, h2⟩
theorem OddN.step {p c : Addr} {n : Nat} {H H' : Hp} {v : V} (h : OddN n H v) (s : PenStep p c H H') : OddN n H' v := by
  obtain ⟨⟨b, hb⟩, h2⟩ := h
  exact ⟨⟨b, hb.stepP s⟩, h2⟩
end Wm
namespace Wm
open PySem PySem.Spec PyProof.Rows L2
abbrev ZqO (hp : Heap) (z TI TO a : Addr) (f : Bool) : Prop := hp.get? z = some { cls := .type "zip", dict := none, data := .fields #[rawInt a, .bool f, .bool false, .ref TI, .ref TO], slots := #[] }
section
variable {prog : Program} {w : World} {A : Around} {E : Value → Shared → Prop} {s : Shared} {z TI TO i1 i2 l1 l2 a : Addr} {f : Bool}
structure ZqSt (h : Heap) (z TI TO i1 i2 l1 l2 S : Addr) (i : Nat) : Prop where
  out : (i = 0 ∧ IsZip h z TI TO .none ∧ IsPair h TO .none .none) ∨ ∃ a f oa, ZqO h z TI TO a f ∧ h.get? a = some oa ∧ a ≠ z ∧ a ≠ i1 ∧ a ≠ i2 ∧ a ≠ S
  ti : IsPair h TI (.ref i1) (.ref i2)
  it1 : h.IsListIter i1 l1 i
  it2 : h.IsListIter i2 l2 i
theorem ZqSt.keep {h h' : Heap} {S : Addr} {i : Nat} (x : ZqSt h z TI TO i1 i2 l1 l2 S i) (k : ∀ b o, b ≠ S → h.get? b = some o → h'.get? b = some o) (nz : z ≠ S) (nT : TI ≠ S) (nO : TO ≠ S) (n1 : i1 ≠ S) (n2 : i2 ≠ S) : ZqSt h' z TI TO i1 i2 l1 l2 S i := by
  refine ⟨?_, k _ _ nT x.ti, x.it1.at fun o e => k _ o n1 e, x.it2.at fun o e => k _ o n2 e⟩
  rcases x.out with ⟨r, p1, p2⟩ | ⟨a, f, oa, p1, p2, p3, p4, p5, p6⟩
  · exact .inl ⟨r, k _ _ nz p1, k _ _ nO p2⟩
  · exact .inr ⟨a, f, oa, k _ _ nz p1, k _ _ p6 p2, p3, p4, p5, p6⟩
end
def PairsN (H : Hp) (ps : List (Nat × Nat)) (ts : List Addr) : Prop := All2 (fun (p : Nat × Nat) (t : Addr) => H t = some (.tup [.int (p.1 : Nat), .int (p.2 : Nat)])) ps ts
def putN : Hp → List (Nat × Nat) → List Addr → Hp
  | H, p :: ps, t :: ts => putN (upd H t (.tup [.int (p.1 : Nat), .int (p.2 : Nat)])) ps ts
  | H, _, _ => H
end Wm
namespace Wm
open PySem L2
def AlikeN {σ : Type} (s1 s2 : Nat → σ) (k1 k2 : Nat → List Nat) (n m : Nat) : Prop :=
  ∃ R : Nat → Nat → Prop, R n m ∧ ∀ a b, R a b → s1 a = s2 b ∧ ∀ p, p ∈ (k1 a).zip (k2 b) → R p.1 p.2
inductive Rch {σ : Type} (s1 s2 : Nat → σ) (k1 k2 : Nat → List Nat) (n m : Nat) : Nat → Nat → Prop
  | refl : Rch s1 s2 k1 k2 n m n m
  | step {a b : Nat} {p : Nat × Nat} : Rch s1 s2 k1 k2 n m a b → s1 a = s2 b → p ∈ (k1 a).zip (k2 b) → Rch s1 s2 k1 k2 n m p.1 p.2
section
variable {σ : Type} {s1 s2 : Nat → σ} {k1 k2 : Nat → List Nat} {n m : Nat}
theorem AlikeN.at (h : AlikeN s1 s2 k1 k2 n m) {a b : Nat} (r : Rch s1 s2 k1 k2 n m a b) : s1 a = s2 b := by
  obtain ⟨R, h0, hR⟩ := h
  have : R a b := by
    induction r with
    | refl => exact h0
    | step _ _ hp ih => exact (hR _ _ ih).2 _ hp
  exact (hR _ _ this).1
end
structure UF (N : Nat) (a : List Nat) (c r : Nat → Nat) : Prop where
  len : a.length = N
  lt : ∀ (i x : Nat), a[i]? = some x → x < N
  cls : ∀ (i x : Nat), a[i]? = some x → c x = c i
  rk : ∀ (i x : Nat), a[i]? = some x → x ≠ i → r x < r i
  rt : ∀ (i : Nat), i < N → c i < N ∧ a[c i]? = some (c i)
  fix : ∀ (i : Nat), a[i]? = some i → c i = i
section
variable {N : Nat} {a : List Nat} {c r : Nat → Nat}
theorem UF.start (N : Nat) : UF N (List.range N) (fun i => i) (fun _ => 0) := by
  refine ⟨by simp, fun i x h => ?_, fun i x h => ?_, fun i x h ne => ?_, fun i hi => ⟨hi, by simp [hi]⟩, fun i _ => rfl⟩
  all_goals
    have hl : i < N := by
      have := (List.getElem?_eq_some_iff.mp h).1
      simpa using this
    simp [hl] at h
    omega
theorem UF.at (h : UF N a c r) {i : Nat} (hi : i < N) : ∃ x, a[i]? = some x := ⟨_, List.getElem?_eq_getElem (by rw [h.len]; exact hi)⟩
theorem UF.top (h : UF N a c r) {i : Nat} (hi : i < N) : c (c i) = c i := h.fix _ (h.rt i hi).2
def uniF (c : Nat → Nat) (f l : Nat) : Nat → Nat := fun i => if c i = f then l else c i
end
def GenE (N : Nat) (c : Nat → Nat) (W : List (Nat × Nat)) (x y : Nat) : Prop := ∀ S : Nat → Nat → Prop, (∀ i j, S i j → S j i) → (∀ i j k, S i j → S j k → S i k) → (∀ i j, i < N → j < N → c i = c j → S i j) → (∀ p, p ∈ W → S p.1 p.2) → S x y
def Bis {σ : Type} (N : Nat) (sh : Nat → σ) (kd : Nat → List Nat) (c : Nat → Nat) (W : List (Nat × Nat)) : Prop := ∀ i j, i < N → j < N → c i = c j → sh i = sh j ∧ ∀ p, p ∈ (kd i).zip (kd j) → GenE N c W p.1 p.2
section
variable {σ : Type} {N : Nat} {sh : Nat → σ} {kd : Nat → List Nat} {c : Nat → Nat} {W W' : List (Nat × Nat)}
theorem zip_diag {α : Type} {x y : α} : ∀ {l : List α}, (x, y) ∈ l.zip l → x = y
  | [], h => by simp at h
  | a :: l, h => by
    rw [List.zip_cons_cons] at h
    rcases List.mem_cons.mp h with h | h
    · cases h; rfl
    · exact zip_diag h
theorem Bis.start (hk : ∀ i, i < N → ∀ x, x ∈ kd i → x < N) (W : List (Nat × Nat)) : Bis N sh kd (fun i => i) W := fun i j hi hj e => by
  cases e
  refine ⟨rfl, fun p hp S s1 s2 s3 _ => ?_⟩
  obtain ⟨x, y⟩ := p
  have := zip_diag hp
  subst this
  have hx := hk i hi x (List.of_mem_zip hp).1
  exact s3 _ _ hx hx rfl
theorem GenE.skip {x y u v : Nat} (h : GenE N c ((x, y) :: W) u v) (hx : x < N) (hy : y < N) (e : c x = c y) : GenE N c W u v := fun S s1 s2 s3 s4 => h S s1 s2 s3 fun p hp => by
  rcases List.mem_cons.mp hp with rfl | hp
  · exact s3 _ _ hx hy e
  · exact s4 p hp
theorem Bis.skip {x y : Nat} (h : Bis N sh kd c ((x, y) :: W)) (hx : x < N) (hy : y < N) (e : c x = c y) : Bis N sh kd c W := fun i j hi hj q => ⟨(h i j hi hj q).1, fun p hp => ((h i j hi hj q).2 p hp).skip hx hy e⟩
theorem uni_eq {f l i j : Nat} (e : uniF c f l i = uniF c f l j) : c i = c j ∨ (c i = f ∧ c j = l) ∨ (c i = l ∧ c j = f) := by
  unfold uniF at e
  split at e <;> split at e <;> omega
theorem GenE.take {x y u v : Nat} (h : GenE N c ((x, y) :: W) u v) (hx : x < N) (hy : y < N) (e : c x ≠ c y) (hW : ∀ p, p ∈ W → p ∈ W') : GenE N (uniF c (c x) (c y)) W' u v := fun S s1 s2 s3 s4 => h S s1 s2 (fun i j hi hj q => s3 i j hi hj (by unfold uniF; rw [q])) fun p hp => by
  rcases List.mem_cons.mp hp with rfl | hp
  · exact s3 _ _ hx hy (by
      unfold uniF
      rw [if_pos rfl, if_neg (fun z => e z.symm)])
  · exact s4 p (hW p hp)
theorem zip_mem {α β : Type} {l : List α} {m : List β} {p : α × β} (h : p ∈ l.zip m) : ∃ k : Nat, l[k]? = some p.1 ∧ m[k]? = some p.2 := by
  obtain ⟨k, hk⟩ := List.getElem?_of_mem h
  rw [List.getElem?_zip_eq_some] at hk
  exact ⟨k, hk⟩
theorem mem_zip {α β : Type} {l : List α} {m : List β} {k : Nat} {x : α} {y : β} (h1 : l[k]? = some x) (h2 : m[k]? = some y) : (x, y) ∈ l.zip m := List.mem_of_getElem? (i := k) (by rw [List.getElem?_zip_eq_some]; exact ⟨h1, h2⟩)
theorem Bis.take {x y : Nat} (h : Bis N sh kd c ((x, y) :: W)) (hx : x < N) (hy : y < N) (e : c x ≠ c y) (hs : sh x = sh y) (hl : ∀ i j, sh i = sh j → (kd i).length = (kd j).length)
    (hW : ∀ p, p ∈ W → p ∈ W') (hK : ∀ p, p ∈ (kd x).zip (kd y) → p ∈ W') : Bis N sh kd (uniF c (c x) (c y)) W' := fun i j hi hj q => by
  have via : ∀ i j, i < N → j < N → c i = c x → c j = c y → sh i = sh j ∧ ∀ p, p ∈ (kd i).zip (kd j) → GenE N (uniF c (c x) (c y)) W' p.1 p.2 := fun i j hi hj q1 q2 => by
    obtain ⟨a1, b1⟩ := h i x hi hx q1
    obtain ⟨a2, b2⟩ := h y j hy hj q2.symm
    refine ⟨a1.trans (hs.trans a2), fun p hp => ?_⟩
    obtain ⟨k, k1, k2⟩ := zip_mem hp
    have l1 := hl _ _ a1
    have l2 := hl _ _ hs
    have hk := (List.getElem?_eq_some_iff.mp k1).1
    have g1 := List.getElem?_eq_getElem (l := kd x) (i := k) (by omega)
    have g2 := List.getElem?_eq_getElem (l := kd y) (i := k) (by omega)
    have r1 := (b1 _ (mem_zip k1 g1)).take hx hy e hW
    have r2 := (b2 _ (mem_zip g2 k2)).take hx hy e hW
    have r3 := hK _ (mem_zip g1 g2)
    exact fun S s1 s2 s3 s4 => s2 _ _ _ (r1 S s1 s2 s3 s4) (s2 _ _ _ (s4 _ r3) (r2 S s1 s2 s3 s4))
  rcases uni_eq q with q | ⟨q1, q2⟩ | ⟨q1, q2⟩
  · exact ⟨(h i j hi hj q).1, fun p hp => ((h i j hi hj q).2 p hp).take hx hy e hW⟩
  · exact via i j hi hj q1 q2
  · obtain ⟨a, b⟩ := via j i hj hi q2 q1
    refine ⟨a.symm, fun p hp S s1 s2 s3 s4 => s1 _ _ ?_⟩
    obtain ⟨k, k1, k2⟩ := zip_mem hp
    exact b _ (mem_zip k2 k1) S s1 s2 s3 s4
theorem GenE.done {u v : Nat} (h : GenE N c [] u v) : c u = c v := h (fun i j => c i = c j) (fun _ _ z => z.symm) (fun _ _ _ z w => z.trans w) (fun _ _ _ _ z => z) fun p hp => by cases hp
end
def sideS {σ : Type} (n1 : Nat) (s1 s2 : Nat → σ) : Nat → σ := fun i => if i < n1 then s1 i else s2 (i - n1)
def sideK (n1 : Nat) (k1 k2 : Nat → List Nat) : Nat → List Nat := fun i => if i < n1 then k1 i else (k2 (i - n1)).map (n1 + ·)
section
variable {σ : Type} {s1 s2 : Nat → σ} {k1 k2 : Nat → List Nat} {n m n1 n2 : Nat}
structure Alk (s1 s2 : Nat → σ) (k1 k2 : Nat → List Nat) (n m n1 n2 : Nat) (W : List (Nat × Nat)) (c : Nat → Nat) : Prop where
  bis : Bis (n1 + n2) (sideS n1 s1 s2) (sideK n1 k1 k2) c (W.map fun p => (p.1, n1 + p.2))
  rch : ∀ p, p ∈ W → Rch s1 s2 k1 k2 n m p.1 p.2
  lt : ∀ p, p ∈ W → p.1 < n1 ∧ p.2 < n2
  st : GenE (n1 + n2) c (W.map fun p => (p.1, n1 + p.2)) n (n1 + m)
theorem side_in (h1 : ∀ i, i < n1 → ∀ x, x ∈ k1 i → x < n1) (h2 : ∀ i, i < n2 → ∀ x, x ∈ k2 i → x < n2) : ∀ i, i < n1 + n2 → ∀ x, x ∈ sideK n1 k1 k2 i → x < n1 + n2 := fun i hi x hx => by
  unfold sideK at hx
  split at hx
  · have := h1 i (by assumption) x hx
    omega
  · obtain ⟨y, hy, rfl⟩ := List.mem_map.mp hx
    have := h2 (i - n1) (by omega) y hy
    omega
theorem Alk.start (h1 : ∀ i, i < n1 → ∀ x, x ∈ k1 i → x < n1) (h2 : ∀ i, i < n2 → ∀ x, x ∈ k2 i → x < n2) (hn : n < n1) (hm : m < n2) : Alk s1 s2 k1 k2 n m n1 n2 [(n, m)] (fun i => i) :=
  ⟨Bis.start (side_in h1 h2) _, fun p hp => by
    obtain rfl := List.mem_singleton.mp hp
    exact .refl, fun p hp => by
    obtain rfl := List.mem_singleton.mp hp
    exact ⟨hn, hm⟩, fun S _ _ _ s4 => s4 (n, n1 + m) (by simp)⟩
theorem perm_gen {N : Nat} {c : Nat → Nat} {W W' : List (Nat × Nat)} {u v : Nat} (h : GenE N c W u v) (s : ∀ p, p ∈ W → p ∈ W') : GenE N c W' u v := fun S s1 s2 s3 s4 => h S s1 s2 s3 fun p hp => s4 p (s p hp)
theorem perm_bis {N : Nat} {sh : Nat → σ} {kd : Nat → List Nat} {c : Nat → Nat} {W W' : List (Nat × Nat)} (h : Bis N sh kd c W) (s : ∀ p, p ∈ W → p ∈ W') : Bis N sh kd c W' := fun i j hi hj e => ⟨(h i j hi hj e).1, fun p hp => perm_gen ((h i j hi hj e).2 p hp) s⟩
theorem map_snoc_mem {α β : Type} {f : α → β} {W : List α} {a : α} : ∀ p, p ∈ (W ++ [a]).map f → p ∈ f a :: W.map f := fun p hp => by
  simp only [List.map_append, List.map_cons, List.map_nil, List.mem_append, List.mem_singleton] at hp
  rcases hp with h | h
  · exact List.mem_cons_of_mem _ h
  · rw [h]; exact List.mem_cons_self
variable {W : List (Nat × Nat)} {c : Nat → Nat} {x y : Nat}
theorem Alk.skip (h : Alk s1 s2 k1 k2 n m n1 n2 (W ++ [(x, y)]) c) (e : c x = c (n1 + y)) : Alk s1 s2 k1 k2 n m n1 n2 W c := by
  obtain ⟨hx, hy⟩ := h.lt (x, y) (by simp)
  have hx' : x < n1 + n2 := by simp at hx; omega
  have hy' : n1 + y < n1 + n2 := by simp at hy; omega
  exact ⟨(perm_bis h.bis map_snoc_mem).skip hx' hy' e, fun p hp => h.rch p (List.mem_append_left _ hp), fun p hp => h.lt p (List.mem_append_left _ hp), (perm_gen h.st map_snoc_mem).skip hx' hy' e⟩
theorem Alk.take (h : Alk s1 s2 k1 k2 n m n1 n2 (W ++ [(x, y)]) c) (e : c x ≠ c (n1 + y)) (hs : s1 x = s2 y) (h1 : ∀ i, i < n1 → ∀ x, x ∈ k1 i → x < n1) (h2 : ∀ i, i < n2 → ∀ x, x ∈ k2 i → x < n2)
    (l11 : ∀ i j, s1 i = s1 j → (k1 i).length = (k1 j).length) (l12 : ∀ i j, s1 i = s2 j → (k1 i).length = (k2 j).length) (l22 : ∀ i j, s2 i = s2 j → (k2 i).length = (k2 j).length) :
    Alk s1 s2 k1 k2 n m n1 n2 (W ++ (k1 x).zip (k2 y)) (uniF c (c x) (c (n1 + y))) := by
  obtain ⟨hx, hy⟩ := h.lt (x, y) (by simp)
  simp only at hx hy
  have hx' : x < n1 + n2 := by omega
  have hy' : n1 + y < n1 + n2 := by omega
  have sx : sideS n1 s1 s2 x = s1 x := if_pos hx
  have sy : sideS n1 s1 s2 (n1 + y) = s2 y := by
    unfold sideS
    rw [if_neg (by omega), Nat.add_sub_cancel_left]
  have kx : sideK n1 k1 k2 x = k1 x := if_pos hx
  have ky : sideK n1 k1 k2 (n1 + y) = (k2 y).map (n1 + ·) := by
    unfold sideK
    rw [if_neg (by omega), Nat.add_sub_cancel_left]
  have hW : ∀ p, p ∈ W.map (fun p => (p.1, n1 + p.2)) → p ∈ (W ++ (k1 x).zip (k2 y)).map (fun p => (p.1, n1 + p.2)) := fun p hp => by
    rw [List.map_append]
    exact List.mem_append_left _ hp
  refine ⟨(perm_bis h.bis map_snoc_mem).take hx' hy' e (by rw [sx, sy]; exact hs) (fun i j q => ?_) hW (fun p hp => ?_), fun p hp => ?_, fun p hp => ?_, (perm_gen h.st map_snoc_mem).take hx' hy' e hW⟩
  · unfold sideS at q
    unfold sideK
    split at q <;> split at q <;> simp only [*, if_true, if_false, List.length_map]
    · exact l11 _ _ q
    · exact l12 _ _ q
    · exact (l12 _ _ q.symm).symm
    · exact l22 _ _ q
  · rw [kx, ky, List.zip_map_right] at hp
    rw [List.map_append]
    refine List.mem_append_right _ ?_
    obtain ⟨q, hq, rfl⟩ := List.mem_map.mp hp
    exact List.mem_map.mpr ⟨q, hq, rfl⟩
  · rcases List.mem_append.mp hp with hp | hp
    · exact h.rch p (List.mem_append_left _ hp)
    · exact .step (h.rch (x, y) (by simp)) hs hp
  · rcases List.mem_append.mp hp with hp | hp
    · exact h.lt p (List.mem_append_left _ hp)
    · obtain ⟨a1, a2⟩ := List.of_mem_zip (a := p.1) (b := p.2) hp
      exact ⟨h1 x hx _ a1, h2 y hy _ a2⟩
theorem Alk.done (h : Alk s1 s2 k1 k2 n m n1 n2 [] c) (h1 : ∀ i, i < n1 → ∀ x, x ∈ k1 i → x < n1) (h2 : ∀ i, i < n2 → ∀ x, x ∈ k2 i → x < n2) (hn : n < n1) (hm : m < n2) : AlikeN s1 s2 k1 k2 n m := by
  refine ⟨fun a b => a < n1 ∧ b < n2 ∧ c a = c (n1 + b), ⟨hn, hm, h.st.done⟩, ?_⟩
  rintro a b ⟨ha, hb, e⟩
  obtain ⟨q1, q2⟩ := h.bis a (n1 + b) (by omega) (by omega) e
  unfold sideS at q1
  rw [if_pos ha, if_neg (by omega), Nat.add_sub_cancel_left] at q1
  refine ⟨q1, fun p hp => ?_⟩
  obtain ⟨a1, a2⟩ := List.of_mem_zip (a := p.1) (b := p.2) hp
  refine ⟨h1 a ha _ a1, h2 b hb _ a2, ?_⟩
  have := q2 (p.1, n1 + p.2) (by
    unfold sideK
    rw [if_pos ha, if_neg (by omega), Nat.add_sub_cancel_left, List.zip_map_right]
    exact List.mem_map.mpr ⟨p, hp, rfl⟩)
  exact this.done
structure Qu (s1 s2 : Nat → σ) (k1 k2 : Nat → List Nat) (n m : Nat) (q : List (Nat × Nat)) (at_ : Nat) : Prop where
  st : (n, m) ∈ q
  rch : ∀ p, p ∈ q → Rch s1 s2 k1 k2 n m p.1 p.2
  nd : q.Nodup
  le : at_ ≤ q.length
  fin : ∀ (i : Nat) p, i < at_ → q[i]? = some p → s1 p.1 = s2 p.2 ∧ ∀ r, r ∈ (k1 p.1).zip (k2 p.2) → r ∈ q
theorem Qu.start : Qu s1 s2 k1 k2 n m [(n, m)] 0 := ⟨by simp, fun p hp => by
  obtain rfl := List.mem_singleton.mp hp
  exact .refl, by simp, by simp, fun i p hi => by omega⟩
theorem Qu.done {q : List (Nat × Nat)} (h : Qu s1 s2 k1 k2 n m q q.length) : AlikeN s1 s2 k1 k2 n m :=
  ⟨fun a b => (a, b) ∈ q, h.st, fun a b hab => by
    obtain ⟨i, hi⟩ := List.getElem?_of_mem hab
    exact h.fin i _ (List.getElem?_eq_some_iff.mp hi).1 hi⟩
theorem Qu.next {q q' : List (Nat × Nat)} {at_ : Nat} {p : Nat × Nat} (h : Qu s1 s2 k1 k2 n m q at_) (hp : q[at_]? = some p) (hs : s1 p.1 = s2 p.2) (hpre : ∃ l, q' = q ++ l) (hnd : q'.Nodup) (hin : ∀ r, r ∈ q' → r ∈ q ∨ r ∈ (k1 p.1).zip (k2 p.2)) (hall : ∀ r, r ∈ (k1 p.1).zip (k2 p.2) → r ∈ q') : Qu s1 s2 k1 k2 n m q' (at_ + 1) := by
  obtain ⟨l, rfl⟩ := hpre
  have hl := (List.getElem?_eq_some_iff.mp hp).1
  refine ⟨List.mem_append_left _ h.st, fun r hr => ?_, hnd, by rw [List.length_append]; omega, fun i r hi hr => ?_⟩
  · rcases hin r hr with hr | hr
    · exact h.rch r hr
    · exact .step (h.rch p (List.mem_of_getElem? hp)) hs hr
  · rw [List.getElem?_append_left (by omega)] at hr
    by_cases e : i = at_
    · subst e
      rw [hp] at hr
      cases hr
      exact ⟨hs, hall⟩
    · obtain ⟨a1, a2⟩ := h.fin i r (by omega) hr
      exact ⟨a1, fun t ht => List.mem_append_left _ (a2 t ht)⟩
end
abbrev ShT := Str × Int × List Nat
def shT (t : Tg) : ShT := (t.kind, t.tag, t.vals.map fun x => x.nums.length)
def shF (ts : List Tg) (i : Nat) : Option ShT := (ts[i]?).map shT
def AlikeG (ts us : List Tg) (n m : Nat) : Prop := AlikeN (shF ts) (shF us) (hT ts) (hT us) n m
theorem zip_swap {α β : Type} : ∀ {l : List α} {m : List β} {p : α × β}, p ∈ l.zip m → (p.2, p.1) ∈ m.zip l := fun {l m p} h => by
  obtain ⟨k, k1, k2⟩ := zip_mem h
  exact mem_zip k2 k1
theorem AlikeG.symm {ts us : List Tg} {n m : Nat} (h : AlikeG ts us n m) : AlikeG us ts m n := by
  obtain ⟨R, h0, hR⟩ := h
  refine ⟨fun a b => R b a, h0, fun a b hab => ?_⟩
  obtain ⟨q1, q2⟩ := hR _ _ hab
  exact ⟨q1.symm, fun p hp => q2 _ (zip_swap hp)⟩
theorem PairsN.same {H H' : Hp} {ps : List (Nat × Nat)} {ts : List Addr} (h : PairsN H ps ts) (s : Same H H') : PairsN H' ps ts := All2.mono (fun _ _ z => s _ _ z) h
theorem PairsN.frm {S : Addr → Prop} {H H' : Hp} {ps : List (Nat × Nat)} {ts : List Addr} (h : PairsN H ps ts) (s : Frm S H H') (n : ∀ t, t ∈ ts → ¬ S t) : PairsN H' ps ts := by
  refine all2_idx (All2.len h) fun i p t hp ht => ?_
  obtain ⟨t', h1, h2⟩ := All2.left h hp
  rw [ht] at h1
  cases h1
  exact s _ _ (n t (List.mem_of_getElem? ht)) h2
theorem All2.app {α β : Type} {R : α → β → Prop} : ∀ {l l2 : List α} {m m2 : List β}, All2 R l m → All2 R l2 m2 → All2 R (l ++ l2) (m ++ m2)
  | _, _, _, _, .nil, h => h
  | _, _, _, _, .cons a t, h => .cons a (t.app h)
theorem Rch.lt {σ : Type} {s1 s2 : Nat → σ} {k1 k2 : Nat → List Nat} {n m n1 n2 a b : Nat} (h1 : ∀ i, i < n1 → ∀ x, x ∈ k1 i → x < n1) (h2 : ∀ i, i < n2 → ∀ x, x ∈ k2 i → x < n2) (hn : n < n1) (hm : m < n2) (r : Rch s1 s2 k1 k2 n m a b) : a < n1 ∧ b < n2 := by
  induction r with
  | refl => exact ⟨hn, hm⟩
  | step _ _ hp ih =>
    obtain ⟨k, q1, q2⟩ := zip_mem hp
    exact ⟨h1 _ ih.1 _ (List.mem_of_getElem? q1), h2 _ ih.2 _ (List.mem_of_getElem? q2)⟩
def DbN (N : Nat) (n n' : Nat) : Prop := n' = n ∨ n' = n + N
def DbV (N : Nat) : FV → FV → Prop
  | .one none, y => y = .one none
  | .one (some n), y => ∃ n', y = .one (some n') ∧ DbN N n n'
  | .many l, y => ∃ l', y = .many l' ∧ All2 (DbN N) l l'
theorem DbV.len {N : Nat} {x y : FV} (h : DbV N x y) : y.nums.length = x.nums.length := by
  rcases x with (_ | n) | l
  · cases h
    rfl
  · obtain ⟨n', rfl, _⟩ := h
    rfl
  · obtain ⟨l', rfl, h⟩ := h
    exact h.len.symm
end Wm
namespace Wm
open PySem PySem.Spec L2
open PyProof.Rows hiding St
section
variable {prog : Program} {w : World} {A : Around} {E : Value → Shared → Prop} {s : Shared} {d : Addr}
theorem kw_set {es : List DictEntry} {n : Nat} {k : Str} {v : Value} {Q : Unit → Shared → Prop} (hd : s.heap.get? d = some (PySem.W.dictOf es n)) (hs : ∀ e, e ∈ es → e.key.isStr k = false) (hr : ∀ e, e ∈ es → e.refKey = false)
    (q : ∀ h', h'.get? d = some (PySem.W.dictOf (es ++ [⟨PyData.keyHash w.params k, .str k s.toks, v⟩]) (n + 1)) → Heap.SameBut d s.heap h' → Q () { s with heap := h', toks := s.toks + 1 }) : wpAny (model prog w) A (nsSet d k v) Q E s := by
  have a1 : es.any (·.key.isStr k) = false := by
    rw [List.any_eq_false]
    intro e he
    rw [hs e he]
    exact Bool.false_ne_true
  have a2 : es.any (·.refKey) = false := by
    rw [List.any_eq_false]
    intro e he
    rw [hr e he]
    exact Bool.false_ne_true
  have a3 : aRefKeyMayBeTheName k es.toArray = false := by
    rw [aRefKeyMayBeTheName_at, ← Array.any_toList, ← Array.any_toList]
    show (!es.any (·.key.isStr k) && es.any (·.refKey)) = false
    rw [a2, Bool.and_false]
  have ep : Obj.putName k (PyData.keyHash w.params k) (.str k s.toks) v (PySem.W.dictOf es n) = PySem.W.dictOf (es ++ [⟨PyData.keyHash w.params k, .str k s.toks, v⟩]) (n + 1) := by
    rw [PySem.W.putName_dict, PySem.W.putL_new hs]
    show PySem.W.dictOf _ (if es.any (·.key.isStr k) then n else n + 1) = _
    rw [a1, if_neg Bool.false_ne_true]
  unfold nsSet
  refine wpAny_bind (wpAny_bind (wpAny_askSetting (wpAny_pure (wpAny_bind (wpAny_mkText (wpAny_bind (wpAny_loadPart hd ?_)))))))
  dsimp only
  rw [a3]
  have z := Heap.get?_update_self (Obj.putName k (PyData.keyHash w.params k) (.str k s.toks) v) hd (by rw [ep]; rfl)
  rw [ep] at z
  exact wpAny_updatePart hd (q _ z (Heap.SameBut.update ..))
theorem kw_fill {Q : PUnit → Shared → Prop} : ∀ (ex : List (Str × Value)) (s : Shared) (es : List DictEntry) (n : Nat), s.heap.get? d = some (PySem.W.dictOf es n) → (∀ e, e ∈ es → ∀ x, x ∈ ex → e.key.isStr x.1 = false) → (∀ e, e ∈ es → e.refKey = false) → (ex.map (·.1)).Nodup →
    (∀ h', h'.get? d = some (PySem.W.dictOf (es ++ PySem.W.kwEs w.params s.toks ex) (n + ex.length)) → (∀ b o, b ≠ d → s.heap.get? b = some o → h'.get? b = some o) → Q ⟨⟩ { s with heap := h', toks := s.toks + ex.length }) →
    wpAny (model prog w) A (forIn ex PUnit.unit fun x _ => (nsSet d x.1 x.2 >>= fun _ => pure (ForInStep.yield PUnit.unit))) Q E s
  | [], s, es, n, hd, _, _, _, q => by
    rw [List.forIn_nil]
    refine wpAny_pure (q s.heap ?_ fun _ _ _ e => e)
    show s.heap.get? d = some (PySem.W.dictOf (es ++ []) n)
    rw [List.append_nil]
    exact hd
  | x :: r, s, es, n, hd, hs, hr, hn, q => by
    obtain ⟨n1, n2⟩ := List.nodup_cons.mp (show (x.1 :: r.map (·.1)).Nodup from hn)
    rw [List.forIn_cons]
    refine wpAny_bind (wpAny_bind (kw_set hd (fun e he => hs e he x List.mem_cons_self) hr fun h1 hd1 sb => wpAny_pure ?_))
    refine kw_fill r { s with heap := h1, toks := s.toks + 1 } _ _ hd1 (fun e he y hy => ?_) (fun e he => ?_) n2 fun h2 hd2 kp => ?_
    · rcases List.mem_append.mp he with he | he
      · exact hs e he y (List.mem_cons_of_mem _ hy)
      · obtain rfl := List.mem_singleton.mp he
        exact beq_eq_false_iff_ne.mpr fun z => n1 (by rw [z]; exact List.mem_map_of_mem hy)
    · rcases List.mem_append.mp he with he | he
      · exact hr e he
      · obtain rfl := List.mem_singleton.mp he
        rfl
    · rw [List.append_assoc] at hd2
      have e1 : n + 1 + r.length = n + (x :: r).length := by rw [List.length_cons]; omega
      have e2 : s.toks + 1 + r.length = s.toks + (x :: r).length := by rw [List.length_cons]; omega
      rw [e1] at hd2
      show Q ⟨⟩ { s with heap := h2, toks := s.toks + 1 + r.length }
      rw [e2]
      exact q h2 hd2 fun b o nb e => kp b o nb ((sb.2 b nb).trans e)
end
def KwTo {α : Type} (D : Addr) : List (Str × Value) → Sem α → Sem α → Prop
  | [], t, r => t = r
  | q :: l, t, r => ∃ (β γ : Type) (k1 : Option Value → Sem β) (k2 : β → Sem γ) (k3 : γ → Sem α) (a : β), t = ((nsGet D q.1 >>= k1) >>= k2) >>= k3 ∧ k1 (some q.2) = pure a ∧ KwTo D l (k2 a >>= k3) r
theorem KwTo.run {α : Type} {K : PySem.W.Frag} {M : Model} {A : Around} {E : Value → Shared → Prop} {Q : α → Shared → Prop} {s : Shared} {D : Addr} (X : K.In s.heap) : ∀ {l : List (Str × Value)} {t r : Sem α}, (∀ q, q ∈ l → PySem.W.nsIn K D q.1 = some (some q.2)) → KwTo D l t r → wpAny M A r Q E s → wpAny M A t Q E s
  | [], _, _, _, e, q => by
    cases e
    exact q
  | p :: l, t, r, hl, e, q => by
    obtain ⟨β, γ, k1, k2, k3, a, e1, e2, e3⟩ := e
    have l1 : PySem.W.Looks M s.heap (nsGet D p.1 >>= k1) a := (PySem.W.looks_nsIn X (hl p List.mem_cons_self)).andThen (PySem.W.Looks.of_pure e2)
    rw [e1, bind_assoc]
    have h1 := KwTo.run X (fun p hp => hl p (List.mem_cons_of_mem _ hp)) e3 q
    exact wpAny_bind (l1.here h1)
def FnRK (P : Program) (w : World) (K : PySem.W.Frag) (mg : Str → Option Value) (base : Heap) (CX : CXT) (k : Nat) (f : Addr) (n : Nat) (ks : List Str) (sp : List V → List V → Hp → L2.VK → XK → Prop) : Prop :=
  ∀ (A : Around) (outer : List Env) (s : Shared) (H : Hp) (us ws : List Value) (vs zs : List V) (Q : L2.VK) (E : XK), Room k A → Env0 P w K mg base A outer s H → Vals vs us → Vals zs ws → vs.length = n → zs.length = ks.length → sp vs zs H Q E →
    codeAny (model P w) A (.call (.ref f) ⟨us, ks.zip ws⟩) (CR CX outer P w H s Q E) s
def keyed (l : List (Str × V)) : List (Key × V) := l.map fun p => (Sum.inr p.1, p.2)
theorem kv_keyed : ∀ {l : List (Str × V)} {m : List (Str × Value)}, All2 (fun (p : Str × V) (q : Str × Value) => p.1 = q.1 ∧ RelV p.2 q.2) l m → KV (keyed l) (m.map fun q => ((Sum.inr q.1 : Key), q.2))
  | _, _, .nil => .nil
  | _, _, .cons h t => .cons ⟨congrArg Sum.inr h.1, h.2⟩ (kv_keyed t)
theorem pairs_kw {prog : Program} {w : World} : ∀ (ex : List (Str × Value)) (t : Tok), Pairs (mixKind prog w) (PySem.W.kwEs w.params t ex) (ex.map fun q => ((Sum.inr q.1 : Key), q.2))
  | [], _ => .nil
  | x :: r, t => .cons (strKind_is prog w x.1 t) rfl (pairs_kw r (t + 1))
theorem kw_dict {prog : Program} {w : World} {h : Heap} {d : Addr} {ex : List (Str × Value)} {t : Tok} {n : Nat} (e : h.get? d = some (PySem.W.dictOf (PySem.W.kwEs w.params t ex) n)) (nd : (ex.map (·.1)).Nodup) : h.DictOf (mixKind prog w) d (ex.map fun q => ((Sum.inr q.1 : Key), q.2)) := by
  refine ⟨_, (PySem.W.kwEs w.params t ex).toArray, n, e, ⟨rfl, rfl, rfl⟩, rfl, fun x hx => ?_, ?_, ?_⟩
  · obtain ⟨k, u, hk, hh⟩ := PySem.W.kwEs_key ex t x (List.mem_toArray.mp hx)
    exact ⟨Sum.inr k, by rw [hk]; exact strKind_is prog w k u, hh.trans rfl⟩
  · exact pairs_kw ex t
  · rw [List.map_map]
    exact List.pairwise_map.mpr ((List.pairwise_map.mp nd).imp fun h z => h (Sum.inr.inj z))
section
variable {P : Program} {w : World} {K : PySem.W.Frag} {mg : Str → Option Value} {base : Heap} {k : Nat} {f : Addr} {fd : FuncData} {x qual pd : Str} {params : Arguments} {body : List Stmt} {scope : Scope} {kws : List (Str × V)} {N ps ks : List Str} {sp : Sp}
theorem fn_kw (F : FunD K x qual params body scope [] kws f fd) (S : FnScope N (ps ++ [pd]) scope) (n : Nat) (ms : List (Str × V)) (g : {α : Type} → List α → List α → List α → List α) (ex : {α : Type} → List α → List (Str × α)) (hk : kws ≠ []) (hms : ∀ q, q ∈ ms → q ∈ kws)
    (hrel : ∀ {vs mz zs : List V} {us mv ws : List Value}, Vals vs us → Vals mz mv → Vals zs ws → vs.length = n → mz.length = ms.length → zs.length = ks.length → Vals (g vs mz zs) (g us mv ws) ∧ (g vs mz zs).length = ps.length ∧ All2 (fun (p : Str × V) (q : Str × Value) => p.1 = q.1 ∧ RelV p.2 q.2) (ex zs) (ex ws))
    (hnd : ∀ ws : List Value, ws.length = ks.length → ((ex ws).map (·.1)).Nodup) (hfew : ∀ ws : List Value, ws.length = ks.length → (ex ws).length ≤ 1000)
    (h : ∀ (D : Addr) (doc pm : Value) (an : Option Addr) (cdv ct : Value) (us mv ws : List Value), us.length = n → mv.length = ms.length → ws.length = ks.length →
      KwTo D ((ms.map (·.1)).zip mv) (bindArgs (PySem.W.fnOf x qual params body scope .none (.ref D) doc pm an cdv ct) ⟨us, ks.zip ws⟩)
        ((alloc (PySem.W.dictOf [] 0) : Sem Addr) >>= fun d => (forIn (ex ws) PUnit.unit fun x _ => (nsSet d x.1 x.2 >>= fun _ => pure (ForInStep.yield PUnit.unit))) >>= fun _ => pure (ps.zip (g us mv ws) ++ [(pd, Value.ref d)])))
    (hbody : ∀ (cdv : Value) (A : Around) (outer : List Env) (s : Shared) (H : Hp) (vs : List V) (Q : L2.VK) (E : XK), Room k (A.deeper (envOfC qual scope s.heap.objs.size f cdv)) → sp vs H Q E →
      ∃ t, PSs (cxOf (L2.CX P w) P w K mg base N qual scope f cdv A outer s H E) body t ∧ t { nx := fun _ H' => Q .non H', rt := Q } (start N vs) H) :
    FnRK P w K mg base (L2.CX P w) (k + 1) f n ks (fun vs zs H Q E => ∀ d, H d = none → sp (g vs (ms.map (·.2)) zs ++ [.ref d]) (upd H d (.dK (keyed (ex zs)))) Q E) := by
  obtain ⟨oc, od, dV, kV, doc, pm, an, cdv, ct, osl, rfl, lk, hcd, hD, hK⟩ := F.ex
  intro A outer s H us ws vs zs Q E hr e0 r rz l1 l2 hsp
  rcases hD with ⟨_, rfl⟩ | ⟨e, _⟩
  rotate_left
  · exact absurd rfl e
  rcases hK with e | ⟨D, rfl, hq⟩
  · exact absurd e hk
  obtain ⟨mv, hl, rk, hks⟩ := kwd_vals (ms := ms) fun q hm => hq q (hms q hm)
  have m1 : us.length = n := by rw [← r.length]; exact l1
  have m2 : ws.length = ks.length := by rw [← rz.length]; exact l2
  have m3 : (ms.map (·.2)).length = ms.length := List.length_map ..
  obtain ⟨r1, r2, r3⟩ := hrel r rk rz l1 m3 l2
  have hn : H s.heap.objs.size = none := e0.hok.fresh (Nat.le_refl _)
  refine StX.run_bnd lk hcd S hr e0 (G := fun xs H2 => ∃ d, H d = none ∧ xs = g vs (ms.map (·.2)) zs ++ [V.ref d] ∧ H2 = upd H d (.dK (keyed (ex zs)))) (fun A' Ex Q' hh => ?_) fun s2 H2 xs ⟨d, hd, ex', eH⟩ hr' => ?_
  · have X : K.In s.heap := e0.mod.kin.keeps fun b o e => (e0.bs b o e).1
    refine KwTo.run X hks (h D doc pm an cdv ct us mv ws m1 hl m2) ?_
    refine wpAny_bind (wpAny_alloc ?_)
    have g0 : (s.heap.push (PySem.W.dictOf [] 0)).get? s.heap.objs.size = some (PySem.W.dictOf [] 0) := Heap.get?_push_size _ rfl
    refine wpAny_bind (kw_fill (ex ws) { s with heap := s.heap.push (PySem.W.dictOf [] 0) } [] 0 g0 (fun e he => by cases he) (fun e he => by cases he) (hnd ws m2) fun h' hd' kp => wpAny_pure ?_)
    have kp2 : ∀ b o, s.heap.get? b = some o → h'.get? b = some o := fun b o e => kp b o (Nat.ne_of_lt (Heap.lt_size e)) (Heap.get?_push_of_some _ e)
    have hdo : h'.DictOf (mixKind P w) s.heap.objs.size ((ex ws).map fun q => ((Sum.inr q.1 : Key), q.2)) := kw_dict hd' (hnd ws m2)
    have hlz : (keyed (ex zs)).length ≤ sizeLine := by
      unfold keyed
      rw [List.length_map, r3.len, PySem.sizeLine_eq]
      have := hfew ws m2
      omega
    have new : ObjOk P w (upd H s.heap.objs.size (.dK (keyed (ex zs)))) h' s.heap.objs.size (.dK (keyed (ex zs))) := ⟨hlz, beq_eq_false_iff_ne.mpr (Nat.ne_of_gt (StX.env0_big e0)), _, kv_keyed r3, hdo⟩
    have un : Un (frs outer) [] H (upd H s.heap.objs.size (.dK (keyed (ex zs)))) s.heap h' := Un.laid kp2 (Nat.le_refl _) hn
    have e2 : Env0 P w K mg base A outer { s with heap := h', toks := s.toks + (ex ws).length } (upd H s.heap.objs.size (.dK (keyed (ex zs)))) := by
      refine ⟨e0.frames, e0.mod, fun b o e => ⟨kp2 b o (e0.bs b o e).1, ?_⟩, ?_, Heap.FunFrames.of_keeps (fun b o e _ => ⟨o, kp2 b o e, rfl⟩) e0.funs, fun b hb => ?_, e0.hok.laid kp2 (Nat.le_refl _) new, e0.bare⟩
      · rw [upd_ne (Nat.ne_of_lt (Heap.lt_size (e0.bs b o e).1))]
        exact (e0.bs b o e).2
      · exact Nat.le_trans e0.bsz (Nat.le_of_lt (Heap.lt_size hd'))
      · obtain ⟨_, o, ho, _⟩ := e0.funs.mem hb
        rw [upd_ne (Nat.ne_of_lt (Heap.lt_size ho))]
        exact e0.frf b hb
    have lg : (g us mv ws).length = ps.length := by rw [← r1.length]; exact r2
    have z := hh _ _ (g vs (ms.map (·.2)) zs ++ [V.ref s.heap.objs.size]) (g us mv ws ++ [Value.ref s.heap.objs.size]) e2 un rfl (fun e s' => StX.cxUp outer s H _ _ E e s' un kp2 rfl) (r1.append (.cons rfl .nil)) (by
      rw [List.length_append, List.length_append, r2]
      rfl) ⟨_, hn, rfl, rfl⟩
    rw [List.zip_append lg.symm] at z
    exact z
  · subst ex' eH
    exact hbody cdv A outer s2 _ _ Q E hr' (hsp d hd)
end
def tMethK (C : Addr) (m : Str) (n l : Nat) (sp : List V → List V → Hp → L2.VK → XK → Prop) (E : St → XK) (ta : TE) (t tk : TA) : TE := fun σ H Q => ta σ H fun x H1 => ∃ a dx fs, x = .ref a ∧ H1 a = some (.ins C dx fs) ∧ fs.lookup m = none ∧ t σ H1 fun vs H2 => tk σ H2 fun zs H3 => vs.length + 1 = n ∧ zs.length = l ∧ sp (x :: vs) zs H3 Q (E σ)
section
variable {X : Cx} {CX : CXT} {k n : Nat} {C f : Addr} {ks : List Str} {sp : List V → List V → Hp → L2.VK → XK → Prop} {E : St → XK} {m : Str} {pos apos : Pos} {o e : Expr} {es : List Expr} {kws : List Keyword} {ta : TE} {t tk : TA} {pl : Sem Bool}
theorem run_rk {pins : List (Addr × Obj)} {σ : St} {H : Hp} {s : Shared} {Q : L2.VK} {us ws : List Value} {vs zs : List V} (F : FnRK X.prog X.w X.K X.mg X.base CX k f n ks sp) (hr : Room k X.A) (hx : PassesAt CX X σ (E σ)) (I : Inv X pins σ H s) (r : Vals vs us) (rz : Vals zs ws) (l1 : vs.length = n) (l2 : zs.length = ks.length) (h : sp vs zs H Q (E σ)) :
    wpAny (model X.prog X.w) X.A (call (.ref f) us (ks.zip ws)) (EP X pins σ Q) X.xe s := by
  refine wpAny_call (codeAny_mono (F X.A X.stack s H us ws vs zs Q (E σ) hr I.env0 r rz l1 l2 h) fun r s' hq => ?_)
  cases r with
  | error er => exact hx pins H s er s' I hq
  | ok fl =>
    cases fl with
    | ret u => exact I.after hq
    | next => exact False.elim hq
    | brk => exact False.elim hq
    | cont => exact False.elim hq
theorem pe_methK (he : PE X o ta) (c : Cls X.K C) (hm : Meth X.K C m f) (F : FnRK X.prog X.w X.K X.mg X.base CX k f n ks sp) (hr : Room k X.A) (hx : ∀ σ, PassesAt CX X σ (E σ)) (ha : PA X (e :: es) t) (hkw : PK X kws tk)
    (hall : (backToKw pos (keywordEach kws X.env)).all (·.1.isSome) = true := by rfl) (hks : (backToKw pos (keywordEach kws X.env)).filterMap (·.1) = ks := by rfl)
    (hst : starEach (e :: es) X.env = (false, eval e X.env) :: starEach es X.env := by rfl) (hpl : ((backTo pos (starEach (e :: es) X.env)).any (·.1) || (backToKw pos (keywordEach kws X.env)).any (·.1.isNone)) = false := by rfl)
    (ht : eval (.Call (.Attribute o m apos) (e :: es) kws pos) X.env = (do
      let ov ← eval o X.env
      standAt apos.atName
      let (f, first) ← holding [ov] (getMethod ov m pl)
      callWith pos f first (backTo pos (starEach (e :: es) X.env)) (backToKw pos (keywordEach kws X.env))) := by rfl) :
    PE X (.Call (.Attribute o m apos) (e :: es) kws pos) (tMethK C m n ks.length sp E ta t tk) := by
  refine ⟨fun pins s σ H Q I h => ?_⟩
  refine PySem.W.methodCall_KW (pl := pl) (thn (he.run pins s σ H _ I h) fun u s1 ⟨x, H1, I1, rx, a, dx, fs, ex, ea, l, q⟩ => ?_) ht
  subst ex
  obtain rfl : u = Value.ref a := rx
  refine getmeth_ok I1 ea c hm l ?_
  refine PySem.W.callWith_KW (first := [.ref a]) (h₀ := X.base) I.ok.mod.kin hm.kp hall (thn (ha.run pos pins s1 σ H1 _ I1 q) fun us s2 ⟨vs, H2, I2, rv, q2⟩ => ?_) hpl hst
  refine thn (hkw.run pos pins s2 σ H2 _ I2 q2) fun ws s3 ⟨zs, H3, I3, rz, l1, l2, q3⟩ => ⟨I3.kIn, ?_⟩
  rw [hks]
  exact run_rk (us := .ref a :: us) (vs := .ref a :: vs) F hr (hx σ) I3 (.cons rfl rv) rz l1 l2 q3
def tMethK0 (C : Addr) (m : Str) (n : Nat) (sp : List V → List V → Hp → L2.VK → XK → Prop) (E : St → XK) (ta : TE) (t : TA) : TE := fun σ H Q => ta σ H fun x H1 => ∃ a dx fs, x = .ref a ∧ H1 a = some (.ins C dx fs) ∧ fs.lookup m = none ∧ t σ H1 fun vs H2 => vs.length + 1 = n ∧ sp (x :: vs) [] H2 Q (E σ)
theorem pe_methK0 (he : PE X o ta) (c : Cls X.K C) (hm : Meth X.K C m f) (F : FnRK X.prog X.w X.K X.mg X.base CX k f n [] sp) (hr : Room k X.A) (hx : ∀ σ, PassesAt CX X σ (E σ)) (ha : PA X (e :: es) t)
    (hst : starEach (e :: es) X.env = (false, eval e X.env) :: starEach es X.env := by rfl) (hpl : (backTo pos (starEach es X.env)).any (·.1) = false := by rfl)
    (ht : eval (.Call (.Attribute o m apos) (e :: es) [] pos) X.env = (do
      let ov ← eval o X.env
      standAt apos.atName
      let (f, first) ← holding [ov] (getMethod ov m pl)
      callWith pos f first (backTo pos (starEach (e :: es) X.env)) (backToKw pos (keywordEach [] X.env))) := by rfl) :
    PE X (.Call (.Attribute o m apos) (e :: es) [] pos) (tMethK0 C m n sp E ta t) := by
  refine ⟨fun pins s σ H Q I h => ?_⟩
  refine PySem.W.methodCall_KW (pl := pl) (thn (he.run pins s σ H _ I h) fun u s1 ⟨x, H1, I1, rx, a, dx, fs, ex, ea, l, q⟩ => ?_) ht
  subst ex
  obtain rfl : u = Value.ref a := rx
  refine getmeth_ok I1 ea c hm l ?_
  refine PySem.W.callWith_K (first := [.ref a]) (h₀ := X.base) I.ok.mod.kin hm.kp (thn (ha.run pos pins s1 σ H1 _ I1 q) fun us s2 ⟨vs, H2, I2, r, l1, q2⟩ => ⟨I2.kIn, ?_⟩) hst hpl
  exact run_rk (us := .ref a :: us) (ws := []) (vs := .ref a :: vs) (zs := []) F hr (hx σ) I2 (.cons rfl r) .nil l1 rfl q2
end
theorem r_methKw {C : Addr} {m : Str} {n l : Nat} {sp : List V → List V → Hp → L2.VK → XK → Prop} {E : St → XK} {ta : TE} {t tk : TA} {σ : St} {H : Hp} {Q : L2.VK} (h : ta σ H (methE C m fun x H1 => t σ H1 fun vs H2 => tk σ H2 fun zs H3 => vs.length + 1 = n ∧ zs.length = l ∧ sp (x :: vs) zs H3 Q (E σ))) : tMethK C m n l sp E ta t tk σ H Q := h
theorem r_methKw0 {C : Addr} {m : Str} {n : Nat} {sp : List V → List V → Hp → L2.VK → XK → Prop} {E : St → XK} {ta : TE} {t : TA} {σ : St} {H : Hp} {Q : L2.VK} (h : ta σ H (methE C m fun x H1 => t σ H1 fun vs H2 => vs.length + 1 = n ∧ sp (x :: vs) [] H2 Q (E σ))) : tMethK0 C m n sp E ta t σ H Q := h
theorem passAt0 {X : Cx} (σ : St) : PassesAt (L2.CX X.prog X.w) X σ E0 := fun pins H s e s' I c => passL pins σ H s e s' I c
end Wm
namespace Wm
open PySem L2
def fnamesF (rows : List Row) (x : Str) : List Str := (fieldsF rows x).map (·.1)
def Live (H : Hp) : Addr → Prop := fun a => ∃ o, H a = some o
def PassOk (H : Hp) (rows : List Row) (K : List (Option Str)) (kvs : List (Key × V)) (f : Fld4) : Prop := ∀ v o, valV kvs (.inr f.1) = some v → ValD H v o → valP rows K f.2.1 f.2.2.1 v o
def PassV (H : Hp) (rows : List Row) (K : List (Option Str)) (kvs : List (Key × V)) (f : Fld4) (z : FV) : Prop := fvB rows K f.2.1 f.2.2.1 z = true ∧ match valV kvs (.inr f.1) with | some v => FvR (Live H) true H z v ∧ z.nums.length ≤ 2000 | none => z = emptyFV f.2.1
theorem PassV.few {H : Hp} {rows : List Row} {K : List (Option Str)} {kvs : List (Key × V)} {f : Fld4} {z : FV} (h : PassV H rows K kvs f z) : z.nums.length ≤ 2000 := by
  obtain ⟨_, h⟩ := h
  cases e : valV kvs (.inr f.1) with
  | none =>
    rw [e] at h
    rw [h, empty_nums]
    simp
  | some v =>
    rw [e] at h
    exact h.2
theorem passV_sum {H : Hp} {rows : List Row} {K : List (Option Str)} {kvs : List (Key × V)} {l : List Fld4} {m : List FV} (h : All2 (PassV H rows K kvs) l m) : (m.flatMap FV.nums).length ≤ 2000 * l.length := by
  induction h with
  | nil => simp
  | cons h _ ih =>
    have := h.few
    rw [List.flatMap_cons, List.length_append, List.length_cons]
    omega
def spGAdd (C D CG NK BT NF BV TM : Addr) : Sp := fun vs H Q E => ∃ (g S d : Addr) (F : Addr → Prop) (rows : List Row) (ts : List Tg) (root : Int) (kV tV : V) (kb tb : Bool) (kvs : List (Key × V)) (ks : List Str),
  vs = [.ref g, kV, tV, .ref d] ∧ GrAt CG F H S rows ts root g ∧ SchAt C D H rows S ∧ SchOk rows ∧ GrOk rows ts ∧ KnV H kV kb ∧ IntV H tV tb ∧ H d = some (.dK kvs) ∧ kvs.map (·.1) = ks.map Sum.inr ∧ ks.Nodup ∧ ks.length < 64 ∧ (∀ kv, kv ∈ kvs → ∃ o, ValD H kv.2 o) ∧
  (∀ (x : Str) (n : Int) (vals : List FV), kV = .str x → tV = .int n → x ∈ concF rows → (∀ y, y ∈ ks → y ∈ fnamesF rows x) → SparseD (Live H) H (fieldsF rows x) vals d kvs → GrOk rows (ts ++ [⟨x, n, vals⟩]) → ∀ H', Frm F H H' → GrAt CG (fun a => F a ∨ H a = none) H' S rows (ts ++ [⟨x, n, vals⟩]) root g → Q (.int (ts.length : Nat)) H') ∧
  ((∀ x, kV = .str x → x ∉ concF rows) → ∀ e H', Same H H' → H e = none → H' e = some (.xd [("kind", kV)]) → E (.ref NK) (some e) H') ∧
  ((∃ x, kV = .str x ∧ x ∈ concF rows) → (∀ n, tV = .int n → ¬ (-MT ≤ n ∧ n ≤ MT)) → ∀ e H', Same H H' → H e = none → H' e = some (.xd [("tag", tV)]) → E (.ref BT) (some e) H') ∧
  (∀ (x : Str) (n : Int) (ys : List Str) (nm : Str), kV = .str x → x ∈ concF rows → tV = .int n → -MT ≤ n → n ≤ MT → ys.Perm ks → PyProof.Rows.sortedS ys = true → (ys.find? fun y => !decide (y ∈ fnamesF rows x)) = some nm → ∀ e H', Same H H' → H e = none → H' e = some (.xd [("kind", kV), ("field", .str nm)]) → E (.ref NF) (some e) H') ∧
  (∀ (x : Str) (n : Int) i f v o, kV = .str x → x ∈ concF rows → tV = .int n → -MT ≤ n → n ≤ MT → (∀ y, y ∈ ks → y ∈ fnamesF rows x) → (fieldsF rows x)[i]? = some f → valV kvs (.inr f.1) = some v → ValD H v o → ¬ valP rows (ksOf ts ++ [some x]) f.2.1 f.2.2.1 v o → (∀ (j : Nat) f', j < i → (fieldsF rows x)[j]? = some f' → PassOk H rows (ksOf ts ++ [some x]) kvs f') →
    ∀ e H', Same H H' → H e = none → H' e = some (.xd [("field", .str f.1)]) → E (.ref BV) (some e) H') ∧
  (∀ (x : Str) (n : Int), kV = .str x → x ∈ concF rows → tV = .int n → -MT ≤ n → n ≤ MT → (∀ y, y ∈ ks → y ∈ fnamesF rows x) → (∀ f, f ∈ fieldsF rows x → PassOk H rows (ksOf ts ++ [some x]) kvs f) → 400 ≤ ts.length → ∀ e H', Same H H' → H e = none → H' e = some (.xd [("what", .str "things")]) → E (.ref TM) (some e) H') ∧
  (∀ (x : Str) (n : Int) (vals : List FV), kV = .str x → x ∈ concF rows → tV = .int n → -MT ≤ n → n ≤ MT → (∀ y, y ∈ ks → y ∈ fnamesF rows x) → SparseD (Live H) H (fieldsF rows x) vals d kvs → All2 (fun (f : Fld4) z => fvB rows (ksOf ts ++ [some x]) f.2.1 f.2.2.1 z = true) (fieldsF rows x) vals → ts.length < 400 → 1600 < heldN ts + (vals.flatMap FV.nums).length → ∀ e H', Same H H' → H e = none → H' e = some (.xd [("what", .str "references")]) → E (.ref TM) (some e) H')
theorem ksOf_snoc (ts : List Tg) (t : Tg) : ksOf (ts ++ [t]) = ksOf ts ++ [some t.kind] := by
  unfold ksOf
  rw [List.map_append]
  rfl
theorem add_ok {rows : List Row} {ts : List Tg} {x : Str} {n : Int} {vals : List FV} (hO : GrOk rows ts) (hx : x ∈ concF rows) (h1 : -MT ≤ n) (h2 : n ≤ MT) (hv : All2 (fun (f : Fld4) z => fvB rows (ksOf ts ++ [some x]) f.2.1 f.2.2.1 z = true) (fieldsF rows x) vals) (hl : ts.length < 400) (hh : heldN ts + (vals.flatMap FV.nums).length ≤ 1600) : GrOk rows (ts ++ [⟨x, n, vals⟩]) := by
  refine ⟨by rw [List.length_append, List.length_singleton]; omega, fun u hu => ?_, by rw [held_add]; exact hh⟩
  rcases List.mem_append.mp hu with hu | hu
  · exact (hO.ok u hu).snoc
  · obtain rfl := List.mem_singleton.mp hu
    refine ⟨hx, h1, h2, ?_⟩
    rw [ksOf_snoc]
    refine all2_idx hv.len fun i f z hf hz => ?_
    obtain ⟨z', hz', q⟩ := hv.left hf
    have hz2 : vals[i]? = some z := hz
    rw [hz2] at hz'
    cases hz'
    refine ⟨q, ?_⟩
    have := held_take (t := ⟨x, n, vals⟩) hz2
    have e : heldT ⟨x, n, vals⟩ = vals.flatMap FV.nums := rfl
    rw [e] at this
    omega
theorem find_first {α : Type} {p : α → Bool} : ∀ {l : List α} {i : Nat} {a : α}, l[i]? = some a → p a = true → (∀ (j : Nat) b, j < i → l[j]? = some b → p b = false) → l.find? p = some a
  | [], _, _, h, _, _ => by simp at h
  | x :: l, 0, a, h, ha, _ => by
    cases h
    rw [List.find?_cons, ha]
  | x :: l, i + 1, a, h, ha, hb => by
    have h0 := hb 0 x (by omega) rfl
    rw [List.find?_cons, h0]
    exact find_first (i := i) (by simpa using h) ha fun j b hj e => hb (j + 1) b (by omega) (by simpa using e)
theorem valV_mem : ∀ {kvs : List (Key × V)} {k : Key} {v : V}, valV kvs k = some v → (k, v) ∈ kvs := fun {kvs k v} h => by
  unfold valV at h
  obtain ⟨p, hp, rfl⟩ := Option.map_eq_some_iff.mp h
  have h1 := List.mem_of_find?_eq_some hp
  have h2 := List.find?_some hp
  simp only [decide_eq_true_eq] at h2
  rw [← h2]
  exact h1
theorem ValD.uniq {H : Hp} {v : V} {o p : Option (List V)} (h : ValD H v o) (g : ValD H v p) : o = p := by
  cases h with
  | sc h n =>
    cases g with
    | sc _ _ => rfl
    | sq _ _ _ => exact absurd rfl (n _)
    | dk _ => exact absurd rfl (n _)
  | sq e _ _ =>
    cases g with
    | sc _ n => exact absurd rfl (n _)
    | sq e2 _ _ =>
      rcases e with e | e <;> rcases e2 with e2 | e2 <;> rw [e] at e2 <;> cases e2 <;> rfl
    | dk e2 => rcases e with e | e <;> rw [e] at e2 <;> cases e2
  | dk e =>
    cases g with
    | sc _ n => exact absurd rfl (n _)
    | sq e2 _ _ => rcases e2 with e2 | e2 <;> rw [e] at e2 <;> cases e2
    | dk _ => rfl
end Wm
namespace Wm
open PySem L2
structure Dup (CG : Addr) (F : Addr → Prop) (H : Hp) (S : Addr) (rows : List Row) (ts : List Tg) (root : Nat) (g T : Addr) (A B : Addr → Prop) : Prop where
  gr : GrAt CG A H S rows ts root g
  th : ThsR B false H rows ts T
  sa : ∀ a, A a → F a
  sb : ∀ a, B a → F a
  ab : ∀ a, A a → ¬ B a
  lv : ∀ a, F a → ∃ o, H a = some o
  ok : GrOk rows ts
  rt : root < ts.length
  few : ts.length ≤ 14
section
variable {CG p c S g T L : Addr} {F A B : Addr → Prop} {rows : List Row} {ts : List Tg} {root : Nat} {B0 H H' : Hp}
theorem Dup.kps (h : Dup CG F H S rows ts root g T A B) (k : Kps F H H') : Dup CG F H' S rows ts root g T A B :=
  ⟨h.gr.kps fun b o f e => k b o (h.sa b f) e, h.th.kps fun b o f e => k b o (h.sb b f) e, h.sa, h.sb, h.ab, fun b f => by
    obtain ⟨o, ho⟩ := h.lv b f
    exact ⟨o, k b o f ho⟩, h.ok, h.rt, h.few⟩
theorem Dup.same (h : Dup CG F H S rows ts root g T A B) (s : Same H H') : Dup CG F H' S rows ts root g T A B := h.kps (.of s)
theorem Dup.step (h : Dup CG F H S rows ts root g T A B) (s : PenStep p c H H') (n : ¬ F p) : Dup CG F H' S rows ts root g T A B := h.kps (s.kps n)
theorem Dup.putG {us : List Tg} {r : Nat} (h : Dup CG F H S rows ts root g T A B) (f : Frm A H H') (gr : GrAt CG (fun a => A a ∨ H a = none) H' S rows us r g) :
    ∃ A' : Addr → Prop, (∀ a, A' a → A a ∨ H a = none) ∧ GrAt CG A' H' S rows us r g ∧ ThsR B false H' rows ts T ∧ (∀ a, A' a → ∃ o, H' a = some o) ∧ (∀ a, A' a → ¬ B a) := by
  refine ⟨fun a => (A a ∨ H a = none) ∧ ∃ o, H' a = some o, fun a z => z.1, gr.live, h.th.kps (f.kps fun b z1 z2 => h.ab b z2 z1), fun a z => z.2, fun a z1 z2 => ?_⟩
  rcases z1.1 with z | z
  · exact h.ab a z z2
  · obtain ⟨o, ho⟩ := h.lv a (h.sb a z2)
    rw [ho] at z
    cases z
end
theorem Frm.mono {S S' : Addr → Prop} {H H' : Hp} (f : Frm S H H') (h : ∀ b, S b → S' b) : Frm S' H H' := fun b o n e => f b o (fun z => n (h b z)) e
theorem numsV_ne {vs : List V} {x : Addr} (h : V.ref x ∈ vs) (l : List Nat) : numsV l ≠ vs := fun e => by
  rw [← e] at h
  unfold numsV at h
  obtain ⟨n, _, hn⟩ := List.mem_map.mp h
  cases hn
section
variable {F : Addr → Prop} {b : Bool} {H : Hp} {p y : Addr} {vs : List V} {o : HO}
theorem FvR.updM {x : FV} {v : V} (ep : H p = some (.lst vs)) (hy : V.ref y ∈ vs) (h : FvR F b H x v) : FvR F b (upd H p o) x v := by
  rcases x with (_ | n) | l
  · exact h
  · exact h
  · obtain ⟨a, e, f, h | ⟨hb, h⟩⟩ := h
    · refine ⟨a, e, f, .inl ?_⟩
      rw [upd_ne (fun q => by rw [q, ep] at h; exact numsV_ne hy l (HO.lst.inj (Option.some.inj h)).symm)]
      exact h
    · refine ⟨a, e, f, .inr ⟨hb, ?_⟩⟩
      rw [upd_ne (fun q => by rw [q, ep] at h; cases h)]
      exact h
theorem FullD.updM {fs : List Fld4} {vals : List FV} {d : Addr} {kvs : List (Key × V)} (ep : H p = some (.lst vs)) (hy : V.ref y ∈ vs) (h : FullD F b H fs vals d kvs) : FullD F b (upd H p o) fs vals d kvs :=
  ⟨by rw [upd_ne (fun q => by have := h.at_; rw [q, ep] at this; cases this)]; exact h.at_, h.fp, h.keys, h.vs.mono fun _ _ q => q.updM ep hy⟩
theorem RowR.updM {rows : List Row} {t : Tg} {v : V} (ep : H p = some (.lst vs)) (hy : V.ref y ∈ vs) (h : RowR F b H rows t v) : RowR F b (upd H p o) rows t v := by
  obtain ⟨a, d, kvs, e, f, ea, h⟩ := h
  exact ⟨a, d, kvs, e, f, by rw [upd_ne (fun q => by rw [q, ep] at ea; cases ea)]; exact ea, h.updM ep hy⟩
end
theorem Dup.fin {CG S g T : Addr} {F A B A' N : Addr → Prop} {rows : List Row} {ts us : List Tg} {root r : Nat} {H Hz : Hp} (h : Dup CG F H S rows ts root g T A B) (gr : GrAt CG A' Hz S rows us r g) (hA : ∀ a, A' a → A a ∨ H a = none) (th : ThsR (fun a => B a ∨ N a) false Hz rows us T)
    (hN : ∀ a, N a → F a ∨ H a = none) (hAN : ∀ a, A' a → ¬ N a) (hAB : ∀ a, A' a → ¬ B a) (ok : GrOk rows us) (rt : r < us.length) (few : us.length ≤ 14) : ∃ F' A2 B2 : Addr → Prop, Dup CG F' Hz S rows us r g T A2 B2 ∧ ∀ a, F' a → F a ∨ H a = none := by
  refine ⟨fun a => (A' a ∨ B a ∨ N a) ∧ ∃ o, Hz a = some o, fun a => A' a ∧ ∃ o, Hz a = some o, fun a => (B a ∨ N a) ∧ ∃ o, Hz a = some o, ⟨gr.live, th.live, fun a z => ⟨.inl z.1, z.2⟩, fun a z => ⟨.inr z.1, z.2⟩, fun a z1 z2 => ?_, fun a z => z.2, ok, rt, few⟩, fun a z => ?_⟩
  · rcases z2.1 with z | z
    · exact hAB a z1.1 z
    · exact hAN a z1.1 z
  · rcases z.1 with z | z | z
    · exact (hA a z).imp (h.sa a) id
    · exact .inl (h.sb a z)
    · exact hN a z
end Wm
namespace Wm
open PySem L2
structure Ws (C D CG p c L S qB qG qM g1 g2 T1 T2 : Addr) (rows : List Row) (ts1 ts2 : List Tg) (r1 r2 : Nat) (bs : List V) (F1 F2 : Addr → Prop) (B0 H : Hp) : Prop where
  hp0 : PenAt B0 p c
  st : PenStep p c B0 H
  hR : RowsAt B0 L rows
  sn : SchN C D B0 rows S p
  qb : B0 qB = some (.lst bs)
  nL : L ≠ qB
  nc : c ≠ qB
  d1 : ∃ A B, Dup CG F1 H S rows ts1 r1 g1 T1 A B
  d2 : ∃ A B, Dup CG F2 H S rows ts2 r2 g2 T2 A B
  n1 : ∀ a, F1 a → B0 a = none ∧ a ≠ qG ∧ a ≠ qM
  n2 : ∀ a, F2 a → B0 a = none ∧ a ≠ qG ∧ a ≠ qM
  dis : ∀ a, F1 a → ¬ F2 a
  eG : H qG = some (.lst [.ref g1, .ref g2])
  eM : H qM = some (.lst [.ref T1, .ref T2])
  oG : B0 qG = none
  oM : B0 qM = none
section
variable {C D CG p c L S qB qG qM g1 g2 T1 T2 : Addr} {rows : List Row} {ts1 ts2 us : List Tg} {r1 r2 r : Nat} {bs : List V} {F1 F2 F' : Addr → Prop} {B0 H H' : Hp}
theorem Ws.np1 (W : Ws C D CG p c L S qB qG qM g1 g2 T1 T2 rows ts1 ts2 r1 r2 bs F1 F2 B0 H) : ¬ F1 p := fun z => by
  obtain ⟨o, ho⟩ := W.hp0.some_p
  rw [(W.n1 _ z).1] at ho
  cases ho
theorem Ws.np2 (W : Ws C D CG p c L S qB qG qM g1 g2 T1 T2 rows ts1 ts2 r1 r2 bs F1 F2 B0 H) : ¬ F2 p := fun z => by
  obtain ⟨o, ho⟩ := W.hp0.some_p
  rw [(W.n2 _ z).1] at ho
  cases ho
theorem Ws.step (W : Ws C D CG p c L S qB qG qM g1 g2 T1 T2 rows ts1 ts2 r1 r2 bs F1 F2 B0 H) (s : PenStep p c H H') : Ws C D CG p c L S qB qG qM g1 g2 T1 T2 rows ts1 ts2 r1 r2 bs F1 F2 B0 H' := by
  obtain ⟨A1, B1, d1⟩ := W.d1
  obtain ⟨A2, B2, d2⟩ := W.d2
  exact { W with st := W.st.trans s, d1 := ⟨_, _, d1.step s W.np1⟩, d2 := ⟨_, _, d2.step s W.np2⟩, eG := s.at W.st.pen W.eG rfl, eM := s.at W.st.pen W.eM rfl }
theorem Ws.same (W : Ws C D CG p c L S qB qG qM g1 g2 T1 T2 rows ts1 ts2 r1 r2 bs F1 F2 B0 H) (s : Same H H') : Ws C D CG p c L S qB qG qM g1 g2 T1 T2 rows ts1 ts2 r1 r2 bs F1 F2 B0 H' := W.step (W.st.pen.step s)
theorem Ws.ch1 (W : Ws C D CG p c L S qB qG qM g1 g2 T1 T2 rows ts1 ts2 r1 r2 bs F1 F2 B0 H) (st : PenStep p c B0 H') (fr : Frm (fun b => F1 b ∨ b = p) H H') (d : ∃ A B, Dup CG F' H' S rows us r g1 T1 A B) (hF : ∀ a, F' a → F1 a ∨ H a = none) : Ws C D CG p c L S qB qG qM g1 g2 T1 T2 rows us ts2 r r2 bs F' F2 B0 H' := by
  obtain ⟨A2, B2, d2⟩ := W.d2
  have pg := W.st.pen.ne W.eG rfl
  have pm := W.st.pen.ne W.eM rfl
  have hn : ∀ a, F' a → B0 a = none ∧ a ≠ qG ∧ a ≠ qM := fun a z => by
    rcases hF a z with z | z
    · exact W.n1 a z
    · exact ⟨W.st.free z, fun q => (by rw [q, W.eG] at z; cases z), fun q => (by rw [q, W.eM] at z; cases z)⟩
  refine { W with st := st, d1 := d, d2 := ⟨_, _, d2.kps (fr.kps fun b z1 z2 => z2.elim (fun z => W.dis b z z1) fun z => W.np2 (z ▸ z1))⟩, n1 := hn, dis := fun a z1 z2 => ?_, eG := fr _ _ (fun z => z.elim (fun z => (W.n1 _ z).2.1 rfl) pg) W.eG, eM := fr _ _ (fun z => z.elim (fun z => (W.n1 _ z).2.2 rfl) pm) W.eM }
  rcases hF a z1 with z | z
  · exact W.dis a z z2
  · obtain ⟨o, ho⟩ := d2.lv a z2
    rw [z] at ho
    cases ho
theorem Ws.ch2 (W : Ws C D CG p c L S qB qG qM g1 g2 T1 T2 rows ts1 ts2 r1 r2 bs F1 F2 B0 H) (st : PenStep p c B0 H') (fr : Frm (fun b => F2 b ∨ b = p) H H') (d : ∃ A B, Dup CG F' H' S rows us r g2 T2 A B) (hF : ∀ a, F' a → F2 a ∨ H a = none) : Ws C D CG p c L S qB qG qM g1 g2 T1 T2 rows ts1 us r1 r bs F1 F' B0 H' := by
  obtain ⟨A1, B1, d1⟩ := W.d1
  have pg := W.st.pen.ne W.eG rfl
  have pm := W.st.pen.ne W.eM rfl
  have hn : ∀ a, F' a → B0 a = none ∧ a ≠ qG ∧ a ≠ qM := fun a z => by
    rcases hF a z with z | z
    · exact W.n2 a z
    · exact ⟨W.st.free z, fun q => (by rw [q, W.eG] at z; cases z), fun q => (by rw [q, W.eM] at z; cases z)⟩
  refine { W with st := st, d2 := d, d1 := ⟨_, _, d1.kps (fr.kps fun b z1 z2 => z2.elim (fun z => W.dis b z1 z) fun z => W.np1 (z ▸ z1))⟩, n2 := hn, dis := fun a z1 z2 => ?_, eG := fr _ _ (fun z => z.elim (fun z => (W.n2 _ z).2.1 rfl) pg) W.eG, eM := fr _ _ (fun z => z.elim (fun z => (W.n2 _ z).2.2 rfl) pm) W.eM }
  rcases hF a z2 with z | z
  · exact W.dis a z1 z
  · obtain ⟨o, ho⟩ := d1.lv a z1
    rw [z] at ho
    cases ho
theorem Ws.put {ys : List V} (W : Ws C D CG p c L S qB qG qM g1 g2 T1 T2 rows ts1 ts2 r1 r2 bs F1 F2 B0 H) : Ws C D CG p c L S qB qG qM g1 g2 T1 T2 rows ts1 ts2 r1 r2 ys F1 F2 (upd B0 qB (.lst ys)) (upd H qB (.lst ys)) := by
  obtain ⟨A1, B1, d1⟩ := W.d1
  obtain ⟨A2, B2, d2⟩ := W.d2
  have pb : qB ≠ p := W.hp0.ne W.qb rfl
  have nF1 : ∀ a, F1 a → a ≠ qB := fun a z q => by
    have := (W.n1 a z).1
    rw [q, W.qb] at this
    cases this
  have nF2 : ∀ a, F2 a → a ≠ qB := fun a z q => by
    have := (W.n2 a z).1
    rw [q, W.qb] at this
    cases this
  have nG : qG ≠ qB := fun q => by
    have := W.oG
    rw [q, W.qb] at this
    cases this
  have nM : qM ≠ qB := fun q => by
    have := W.oM
    rw [q, W.qb] at this
    cases this
  have hpn : ∀ {H : Hp}, PenAt H p c → PenAt (upd H qB (.lst ys)) p c := fun {H} h => by
    obtain ⟨ns, a, r, g, m, t, h1, h2, h3⟩ := h.ex
    exact ⟨ns, a, r, g, m, t, (upd_ne pb.symm).trans h1, (upd_ne W.nc).trans h2, h3⟩
  obtain ⟨rvs, eL, hrv⟩ := W.hR
  refine ⟨hpn W.hp0, ⟨hpn W.st.pen, fun b o n e => ?_⟩, ⟨rvs, (upd_ne W.nL).trans eL, all2_rows hrv (kpl_lst W.qb).tx⟩, W.sn.kpl (kpl_lst W.qb), upd_same, W.nL, W.nc, ⟨_, _, d1.kps fun b o z e => (upd_ne (nF1 b z)).trans e⟩, ⟨_, _, d2.kps fun b o z e => (upd_ne (nF2 b z)).trans e⟩, fun a z => ⟨(upd_ne (nF1 a z)).trans (W.n1 a z).1, (W.n1 a z).2⟩, fun a z => ⟨(upd_ne (nF2 a z)).trans (W.n2 a z).1, (W.n2 a z).2⟩, W.dis, (upd_ne nG).trans W.eG, (upd_ne nM).trans W.eM, (upd_ne nG).trans W.oG, (upd_ne nM).trans W.oM⟩
  by_cases z : b = qB
  · subst z
    rw [upd_same] at e ⊢
    exact e
  · rw [upd_ne z] at e ⊢
    exact W.st.keep b o n e
end
theorem Dup.mk0 {CG S g T : Addr} {rows : List Row} {ts : List Tg} {root : Nat} {Ha Hb Hc Hd H : Hp} (gr : GrAt CG (New Ha) Hb S rows ts root g) (th : ThsR (New Hc) false Hd rows ts T) (sb : Same Hb Hc) (sd : Same Hc Hd) (s : Same Hd H) (ok : GrOk rows ts) (rt : root < ts.length) (few : ts.length ≤ 14) :
    ∃ A B, Dup CG (fun a => (New Ha a ∧ ∃ o, Hb a = some o) ∨ (New Hc a ∧ ∃ o, Hd a = some o)) H S rows ts root g T A B := by
  have sbh := (sb.trans sd).trans s
  refine ⟨fun a => New Ha a ∧ ∃ o, Hb a = some o, fun a => New Hc a ∧ ∃ o, Hd a = some o, (gr.sub fun a o f e => ⟨f, o, e⟩).kps (.of sbh), (th.sub fun a o f e => ⟨f, o, e⟩).kps (.of s), fun a z => .inl z, fun a z => .inr z, fun a z1 z2 => ?_, fun a z => ?_, ok, rt, few⟩
  · obtain ⟨_, o, ho⟩ := z1
    have := sb _ _ ho
    rw [z2.1] at this
    cases this
  · rcases z with ⟨_, o, ho⟩ | ⟨_, o, ho⟩
    · exact ⟨o, sbh _ _ ho⟩
    · exact ⟨o, s _ _ ho⟩
end Wm
namespace Wm
open PySem L2
theorem vals_take : ∀ (n : Nat) {vs : List V} {us : List Value}, Vals vs us → Vals (vs.take n) (us.take n)
  | 0, _, _, _ => .nil
  | _ + 1, _, _, .nil => .nil
  | n + 1, _, _, .cons h t => .cons h (vals_take n t)
theorem vals_drop : ∀ (n : Nat) {vs : List V} {us : List Value}, Vals vs us → Vals (vs.drop n) (us.drop n)
  | 0, _, _, h => h
  | _ + 1, _, _, .nil => .nil
  | n + 1, _, _, .cons _ t => vals_drop n t
theorem ex_zip : ∀ {ks : List Str} {vs : List V} {us : List Value}, Vals vs us → All2 (fun (p : Str × V) (q : Str × Value) => p.1 = q.1 ∧ RelV p.2 q.2) (ks.zip vs) (ks.zip us)
  | [], _, _, _ => .nil
  | _ :: _, _, _, .nil => .nil
  | _ :: ks, _, _, .cons h t => .cons ⟨rfl, h⟩ (ex_zip (ks := ks) t)
theorem ex_sub {α : Type} : ∀ {ks : List Str} {ws : List α}, ((ks.zip ws).map (·.1)).Sublist ks
  | [], _ => List.Sublist.refl _
  | _ :: _, [] => List.nil_sublist _
  | _ :: ks, _ :: ws => (ex_sub (ks := ks) (ws := ws)).cons₂ _
theorem ex_nodup {α : Type} {ks : List Str} {ws : List α} (h : ks.Nodup) : ((ks.zip ws).map (·.1)).Nodup := h.sublist ex_sub
theorem ex_few {α : Type} {ks : List Str} {ws : List α} (h : ks.length ≤ 1000) : (ks.zip ws).length ≤ 1000 := by
  rw [List.length_zip]
  omega
theorem sparse_uniq {F G : Addr → Prop} {H : Hp} {kvs : List (Key × V)} : ∀ {fs : List Fld4} {vals more : List FV}, All2 (fun (f : Fld4) x => match valV kvs (.inr f.1) with | some v => FvR F true H x v | none => x = emptyFV f.2.1) fs vals → All2 (fun (f : Fld4) x => match valV kvs (.inr f.1) with | some v => FvR G true H x v | none => x = emptyFV f.2.1) fs more → vals = more
  | [], _, _, .nil, .nil => rfl
  | f :: _, _, _, .cons h t, .cons h' t' => by
    rw [sparse_uniq t t']
    congr 1
    revert h h'
    cases valV kvs (.inr f.1) with
    | none => exact fun h h' => h.trans h'.symm
    | some v => exact fun h h' => h.one_of h'
theorem add_right {C D CG NK BT NF BV TM g S d : Addr} {F : Addr → Prop} {H : Hp} {rows : List Row} {ts : List Tg} {root : Int} {x : Str} {n : Int} {vals : List FV} {kvs : List (Key × V)} {ks : List Str} {Q : L2.VK} {E : XK}
    (hG : GrAt CG F H S rows ts root g) (hS : SchAt C D H rows S) (hok : SchOk rows) (hO : GrOk rows ts) (hx : x ∈ concF rows) (h1 : -MT ≤ n) (h2 : n ≤ MT) (hd : H d = none)
    (hkeys : kvs.map (·.1) = ks.map Sum.inr) (nd : ks.Nodup) (few : ks.length < 64) (hks : ∀ y, y ∈ ks → y ∈ fnamesF rows x)
    (hval : ∀ kv, kv ∈ kvs → ∃ f z, f ∈ fieldsF rows x ∧ kv.1 = .inr f.1 ∧ FvR (Live H) true H z kv.2 ∧ z.nums.length ≤ 2000 ∧ fvB rows (ksOf ts ++ [some x]) f.2.1 f.2.2.1 z = true)
    (hv : All2 (fun (f : Fld4) z => match valV kvs (.inr f.1) with | some v => FvR (Live H) true H z v | none => z = emptyFV f.2.1) (fieldsF rows x) vals)
    (hl : ts.length < 400) (hh : heldN ts + (vals.flatMap FV.nums).length ≤ 1600)
    (k : ∀ H', Frm F H H' → GrAt CG (fun a => F a ∨ H a = none) H' S rows (ts ++ [⟨x, n, vals⟩]) root g → Q (.int (ts.length : Nat)) H') : spGAdd C D CG NK BT NF BV TM [.ref g, .str x, .int n, .ref d] (upd H d (.dK kvs)) Q E := by
  have sd : Same H (upd H d (.dK kvs)) := same_new hd
  have ed : (upd H d (.dK kvs)) d = some (.dK kvs) := upd_same
  have fr : ∀ {a}, (upd H d (.dK kvs)) a = none → H a = none := fun z => sd.free z
  generalize upd H d (.dK kvs) = H1 at sd ed fr ⊢
  have hv1 : All2 (fun (f : Fld4) z => match valV kvs (.inr f.1) with | some v => FvR (Live H) true H1 z v | none => z = emptyFV f.2.1) (fieldsF rows x) vals := hv.mono fun f z => by
    cases valV kvs (.inr f.1) with
    | none => exact id
    | some v => exact fun h => h.kps (.of sd)
  have hxn : x.length ≤ sizeLine := by
    have := kindName_len (hok.ok.kn (conc_names hx))
    rw [PySem.sizeLine_eq]
    omega
  have hfn : ∀ f, f ∈ fieldsF rows x → f.1 ∈ fnamesF rows x := fun f hf => List.mem_map_of_mem hf
  refine ⟨g, S, d, F, rows, ts, root, .str x, .int n, _, true, kvs, ks, rfl, hG.kps (.of sd), hS.same sd, hok, hO, .inl ⟨_, rfl, hxn, rfl⟩, .int _, ed, hkeys, nd, few, fun kv hkv => ?_, fun x' n' vals' e1 e2 _ _ hsp hO' H' f' gr' => ?_, fun z => (z _ rfl hx).elim, fun _ z => (z _ rfl ⟨h1, h2⟩).elim, fun x' n' ys nm e1 _ _ _ _ hp _ hf => ?_, fun x' n' i f v o e1 _ _ _ _ _ hf hvv hvd hno => ?_, fun x' n' _ _ _ _ _ _ _ z => ?_, fun x' n' vals' e1 _ _ _ _ _ hsp _ _ z => ?_⟩
  · obtain ⟨f, z, _, _, hz, hzl, _⟩ := hval kv hkv
    obtain ⟨o, ho, _⟩ := (hz.kps (.of sd)).valD hzl
    exact ⟨o, ho⟩
  · obtain rfl := V.str.inj e1
    obtain rfl := V.int.inj e2
    obtain rfl := sparse_uniq hsp.vs hv1
    exact k H' ((Frm.of sd).trans f') (gr'.sub fun a o z _ => z.imp id fr)
  · obtain rfl := V.str.inj e1
    have h3 := List.find?_some hf
    have h4 := hks nm (hp.mem_iff.mp (List.mem_of_find?_eq_some hf))
    simp [h4] at h3
  · obtain rfl := V.str.inj e1
    obtain ⟨f', z, hf', hkf, hz, hzl, hzb⟩ := hval _ (valV_mem hvv)
    have hff : f' = f := fld_uniq (fields_names hok (conc_names hx)) hf' (List.mem_of_getElem? hf) (Sum.inr.inj hkf).symm
    subst hff
    obtain ⟨o', ho', hp'⟩ := (hz.kps (.of sd)).valD hzl
    obtain rfl := ho'.uniq hvd
    exact (hno (hp' _ _ _ _ hzb)).elim
  · omega
  · obtain rfl := V.str.inj e1
    obtain rfl := sparse_uniq hsp.vs hv1
    omega

def wTag (way : Nat) (n : Int) : Int := if way = 1 ∨ way = 3 ∨ way = 5 ∨ way = 6 then n else 0
def wLink (way : Nat) (m : Str) (z : FV) : FV := if way = 2 ∨ way = 5 ∨ way = 6 then z else emptyFV m
def wPart (way : Nat) (m : Str) (z : FV) : FV := if way = 3 ∨ way = 4 ∨ way = 5 ∨ way = 6 then z else emptyFV m
def spLAdded (C D CG : Addr) : Sp := fun vs H Q _ => ∃ (g S : Addr) (F : Addr → Prop) (rows : List Row) (ts : List Tg) (root : Int) (way : Nat) (x : Str) (n : Int) (v1 v2 : V) (z1 z2 : FV) (m1 t1 o1 m2 t2 o2 : Str), vs = [.ref g, .int way, .str x, .int n, v1, v2] ∧ GrAt CG F H S rows ts root g ∧ SchAt C D H rows S ∧ SchOk rows ∧ GrOk rows ts ∧ x ∈ concF rows ∧ fieldsF rows x = [(("link" : Str), m1, t1, o1), (("parts" : Str), m2, t2, o2)] ∧ -MT ≤ n ∧ n ≤ MT ∧
  FvR (Live H) true H z1 v1 ∧ FvR (Live H) true H z2 v2 ∧ fvB rows (ksOf ts ++ [some x]) m1 t1 z1 = true ∧ fvB rows (ksOf ts ++ [some x]) m2 t2 z2 = true ∧ z1.nums.length ≤ 4 ∧ z2.nums.length ≤ 4 ∧ ts.length < 100 ∧ heldN ts ≤ 1000 ∧ way ≤ 6 ∧
  ∀ H', Frm F H H' → GrAt CG (fun a => F a ∨ H a = none) H' S rows (ts ++ [⟨x, wTag way n, [wLink way m1 z1, wPart way m2 z2]⟩]) root g → Q (.int (ts.length : Nat)) H'
theorem valL {v : V} : valV [((Sum.inr "link" : Key), v)] (Sum.inr "link") = some v := by
  unfold valV
  simp
theorem valLP {v : V} : valV [((Sum.inr "link" : Key), v)] (Sum.inr "parts") = none := valV_none (by
  intro h
  have := List.mem_singleton.mp h
  exact absurd (Sum.inr.inj this) (by decide +kernel))
theorem valP2 {v : V} : valV [((Sum.inr "parts" : Key), v)] (Sum.inr "parts") = some v := by
  unfold valV
  simp
theorem valPL {v : V} : valV [((Sum.inr "parts" : Key), v)] (Sum.inr "link") = none := valV_none (by
  intro h
  have := List.mem_singleton.mp h
  exact absurd (Sum.inr.inj this) (by decide +kernel))
theorem valLP1 {v w : V} : valV [((Sum.inr "link" : Key), v), (Sum.inr "parts", w)] (Sum.inr "link") = some v := by
  unfold valV
  simp
theorem valV_two {a b : Str} (n : a ≠ b) {v w : V} : valV [((Sum.inr a : Key), v), ((Sum.inr b : Key), w)] (Sum.inr b) = some w := by
  unfold valV
  have : ¬ ((Sum.inr a : Key) = (Sum.inr b : Key)) := fun h => n (Sum.inr.inj h)
  simp [this]
theorem valLP2 {v w : V} : valV [((Sum.inr (("link" : Str)) : Key), v), ((Sum.inr (("parts" : Str)) : Key), w)] (Sum.inr (("parts" : Str))) = some w := valV_two (by decide +kernel)
abbrev spAddK (C D CG NK BT NF BV TM : Addr) (g : List V → List V → List V) (ex : List V → List (Str × V)) : List V → List V → Hp → L2.VK → XK → Prop := fun vs zs H Q E => ∀ d, H d = none → spGAdd C D CG NK BT NF BV TM (g vs zs ++ [.ref d]) (upd H d (.dK (keyed (ex zs)))) Q E
end Wm
namespace Wm
open PySem L2
theorem last_self : ∀ {l : List Str}, l.Nodup → lastOcc l = l
  | [], _ => rfl
  | x :: l, h => by
    obtain ⟨h1, h2⟩ := List.nodup_cons.mp h
    rw [lastOcc_head h1, last_self h2]
def famFs (m1 t1 m2 t2 o : Str) : List Fld4 := [(("link" : Str), m1, t1, o), (("parts" : Str), m2, t2, o)]
structure Fam (all : List Str) (m1 t1 m2 t2 o : Str) (rows : List Row) : Prop where
  ok : RowsOk all rows
  nf : ∀ n, n ∈ names rows → fieldsF rows n = famFs m1 t1 m2 t2 o
  cn : 1 < rows.length → ∃ r, r ∈ rows ∧ r.abs = false
def famRow (m1 t1 m2 t2 o : Str) : Row := ⟨o, [], true, [(("link" : Str), m1, t1), (("parts" : Str), m2, t2)]⟩
theorem fam_nd (m1 t1 m2 t2 o : Str) : ((famFs m1 t1 m2 t2 o).map (·.1)).Nodup := by
  show ([("link" : Str), ("parts" : Str)] : List Str).Nodup
  decide +kernel
theorem fam0 {all : List Str} {m1 t1 m2 t2 o : Str} (hk : kindName o = true) (h1 : m1 ∈ MODESl) (h2 : m2 ∈ MODESl) (h3 : t1 ∈ all) (h4 : t2 ∈ all) : Fam all m1 t1 m2 t2 o [famRow m1 t1 m2 t2 o] := by
  have nn : (famRow m1 t1 m2 t2 o).name ∉ names [] := fun z => by cases z
  have hl := line_new (rows := []) (r := famRow m1 t1 m2 t2 o) nn
  have ho := own_new (rows := []) (r := famRow m1 t1 m2 t2 o) nn
  have hf : fieldsF ([] ++ [famRow m1 t1 m2 t2 o]) (famRow m1 t1 m2 t2 o).name = famFs m1 t1 m2 t2 o := by
    unfold fieldsF
    rw [hl]
    have e1 : lastOcc ((famRow m1 t1 m2 t2 o).name :: (famRow m1 t1 m2 t2 o).bases.flatMap (lineF [])) = [o] := by simp [famRow, lastOcc]
    rw [e1]
    simp only [List.reverse_cons, List.reverse_nil, List.nil_append, List.flatMap_cons, List.flatMap_nil, List.append_nil]
    rw [show ownOf [famRow m1 t1 m2 t2 o] o = ownOf ([] ++ [famRow m1 t1 m2 t2 o]) (famRow m1 t1 m2 t2 o).name from rfl, ho]
    rfl
  refine ⟨RowsOk.snoc (rows := []) (fun k r e => by simp at e) ⟨hk, nn, fun b hb => (by cases hb), List.nodup_nil, by simp [famRow], fun f hf => ?_, by rw [hf]; exact fam_nd _ _ _ _ _, by rw [hf]; simp [famFs]⟩, fun n hn => ?_, fun z => by simp at z⟩
  · have q1 : fieldName "link" = true := by decide +kernel
    have q2 : fieldName "parts" = true := by decide +kernel
    rcases List.mem_cons.mp hf with rfl | hf
    · exact ⟨q1, h1, h3⟩
    · rw [List.mem_singleton.mp hf]
      exact ⟨q2, h2, h4⟩
  · have : n = o := List.mem_singleton.mp hn
    subst this
    exact hf
theorem Fam.snoc {all : List Str} {m1 t1 m2 t2 o n b : Str} {rows : List Row} (h : Fam all m1 t1 m2 t2 o rows) (hk : kindName n = true) (fr : n ∉ names rows) (hb : b ∈ names rows) : Fam all m1 t1 m2 t2 o (rows ++ [⟨n, [b], false, []⟩]) := by
  have hl := line_new (rows := rows) (r := ⟨n, [b], false, []⟩) fr
  have ho := own_new (rows := rows) (r := ⟨n, [b], false, []⟩) fr
  have nl : n ∉ lineF rows b := fun z => fr (line_sub h.ok.bs z)
  have hf : fieldsF (rows ++ [⟨n, [b], false, []⟩]) n = famFs m1 t1 m2 t2 o := by
    rw [← h.nf b hb]
    unfold fieldsF
    have e1 : lineF (rows ++ [⟨n, [b], false, []⟩]) n = n :: lineF rows b := by
      have : lineF (rows ++ [⟨n, [b], false, []⟩]) n = lastOcc (n :: [b].flatMap (lineF rows)) := hl
      rw [this, List.flatMap_cons, List.flatMap_nil, List.append_nil, lastOcc_head nl, last_self (line_nodup rows b)]
    have ho' : ownOf (rows ++ [⟨n, [b], false, []⟩]) n = [] := ho
    rw [e1, List.reverse_cons, List.flatMap_append, List.flatMap_cons, List.flatMap_nil, ho', List.map_nil, List.append_nil, List.append_nil]
    have hs : ∀ x, x ∈ (lineF rows b).reverse → x ∈ names rows := fun x hx => line_sub h.ok.bs (List.mem_reverse.mp hx)
    generalize (lineF rows b).reverse = l at hs
    induction l with
    | nil => rfl
    | cons x l ih =>
      rw [List.flatMap_cons, List.flatMap_cons, own_keeps (hs x List.mem_cons_self), ih fun y hy => hs y (List.mem_cons_of_mem _ hy)]
  refine ⟨RowsOk.snoc h.ok ⟨hk, fr, fun x hx => by rw [List.mem_singleton.mp hx]; exact hb, List.pairwise_singleton _ _, by simp, fun f hf => (by cases hf), by rw [hf]; exact fam_nd _ _ _ _ _, by rw [hf]; simp [famFs]⟩, fun x hx => ?_, fun _ => ⟨_, List.mem_append_right _ (List.mem_singleton.mpr rfl), rfl⟩⟩
  have hn : names (rows ++ [⟨n, [b], false, []⟩]) = names rows ++ [n] := by
    unfold names
    rw [List.map_append]
    rfl
  rw [hn] at hx
  rcases List.mem_append.mp hx with hx | hx
  · rw [fields_keep h.ok.bs hx]
    exact h.nf x hx
  · rw [List.mem_singleton.mp hx]
    exact hf
def spFam : Sp := fun vs H Q _ => ∃ (p c : Addr), vs = [.ref p] ∧ PenAt H p c ∧ ∀ (rows : List Row) (m1 t1 m2 t2 o : Str) q H', PenStep p c H H' → H q = none → RowsAt H' q rows → SchOk rows → (∀ n, n ∈ names rows → fieldsF rows n = famFs m1 t1 m2 t2 o) → m1 ∈ MODESl → m2 ∈ MODESl → Q (.ref q) H'
end Wm
namespace Wm
open PySem L2
theorem ths_app0 {B G : Addr → Prop} {H : Hp} {rows : List Row} {ts : List Tg} {T q : Addr} {vs : List V} {u : Tg} (h : ThsR B false H rows ts T) (e : H T = some (.lst vs)) (hq : RowR (fun a => G a ∧ a ≠ T) false H rows u (.ref q)) (hG : ∀ a, B a → G a) :
    ThsR G false (upd H T (.lst (vs ++ [.ref q]))) rows (ts ++ [u]) T := by
  obtain ⟨vs', f, e', h⟩ := h
  rw [e] at e'
  cases e'
  refine ⟨_, hG _ f, upd_same, All2.snoc ((hq.kps fun b o f e => (upd_ne f.2).trans e).sub fun a _ z _ _ => z.1) ?_⟩
  cases h with
  | nil => exact .nil
  | cons h0 ht =>
    obtain ⟨y, d, kvs, rfl, _⟩ := id h0
    exact (All2.cons h0 ht).mono fun _ _ z => (z.sub fun a _ z _ _ => hG a z).updM e (y := y) List.mem_cons_self
structure Duo (CG : Addr) (F : Addr → Prop) (H : Hp) (S : Addr) (rows : List Row) (ts : List Tg) (g T : Addr) (A B : Addr → Prop) : Prop where
  gr : GrAt CG A H S rows ts 0 g
  th : ThsR B false H rows ts T
  sa : ∀ a, A a → F a
  sb : ∀ a, B a → F a
  ab : ∀ a, A a → ¬ B a
  lv : ∀ a, F a → ∃ o, H a = some o
  ok : GrOk rows ts
section
variable {CG p c S g T L : Addr} {F A B : Addr → Prop} {rows : List Row} {ts : List Tg} {B0 H H' : Hp}
theorem Duo.kps (h : Duo CG F H S rows ts g T A B) (k : Kps F H H') : Duo CG F H' S rows ts g T A B :=
  ⟨h.gr.kps fun b o f e => k b o (h.sa b f) e, h.th.kps fun b o f e => k b o (h.sb b f) e, h.sa, h.sb, h.ab, fun b f => by
    obtain ⟨o, ho⟩ := h.lv b f
    exact ⟨o, k b o f ho⟩, h.ok⟩
theorem Duo.same (h : Duo CG F H S rows ts g T A B) (s : Same H H') : Duo CG F H' S rows ts g T A B := h.kps (.of s)
theorem Duo.step (h : Duo CG F H S rows ts g T A B) (s : PenStep p c H H') (n : ¬ F p) : Duo CG F H' S rows ts g T A B := h.kps (s.kps n)
theorem Duo.putG {us : List Tg} (h : Duo CG F H S rows ts g T A B) (f : Frm A H H') (gr : GrAt CG (fun a => A a ∨ H a = none) H' S rows us 0 g) :
    ∃ A' : Addr → Prop, (∀ a, A' a → A a ∨ H a = none) ∧ GrAt CG A' H' S rows us 0 g ∧ ThsR B false H' rows ts T ∧ (∀ a, A' a → ∃ o, H' a = some o) ∧ (∀ a, A' a → ¬ B a) := by
  refine ⟨fun a => (A a ∨ H a = none) ∧ ∃ o, H' a = some o, fun a z => z.1, gr.live, h.th.kps (f.kps fun b z1 z2 => h.ab b z2 z1), fun a z => z.2, fun a z1 z2 => ?_⟩
  rcases z1.1 with z | z
  · exact h.ab a z z2
  · obtain ⟨o, ho⟩ := h.lv a (h.sb a z2)
    rw [ho] at z
    cases z
theorem Duo.fin {A' N : Addr → Prop} {us : List Tg} {Hz : Hp} (h : Duo CG F H S rows ts g T A B) (gr : GrAt CG A' Hz S rows us 0 g) (hA : ∀ a, A' a → A a ∨ H a = none) (th : ThsR (fun a => B a ∨ N a) false Hz rows us T)
    (hN : ∀ a, N a → F a ∨ H a = none) (hAN : ∀ a, A' a → ¬ N a) (hAB : ∀ a, A' a → ¬ B a) (ok : GrOk rows us) : ∃ F' A2 B2 : Addr → Prop, Duo CG F' Hz S rows us g T A2 B2 ∧ (∀ a, F' a → F a ∨ H a = none) ∧ ∀ a, F' a → A' a ∨ B a ∨ N a := by
  refine ⟨fun a => (A' a ∨ B a ∨ N a) ∧ ∃ o, Hz a = some o, fun a => A' a ∧ ∃ o, Hz a = some o, fun a => (B a ∨ N a) ∧ ∃ o, Hz a = some o, ⟨gr.live, th.live, fun a z => ⟨.inl z.1, z.2⟩, fun a z => ⟨.inr z.1, z.2⟩, fun a z1 z2 => ?_, fun a z => z.2, ok⟩, fun a z => ?_, fun a z => z.1⟩
  · rcases z2.1 with z | z
    · exact hAB a z1.1 z
    · exact hAN a z1.1 z
  · rcases z.1 with z | z | z
    · exact (hA a z).imp (h.sa a) id
    · exact .inl (h.sb a z)
    · exact hN a z
end
theorem r_inN {K : PySem.W.Frag} {H : Hp} {Q : L2.VK} {p : Addr} {m : List Nat} {x : Nat} (h : H p = some (.lst (numsV m))) (q : Q (.bl (decide (x ∈ m))) H) : rIn K false (.int (x : Nat)) (.ref p) H Q := r_in (.inl (.of h)) rfl (flat_nums m) (by rw [inV_nums]; exact q)
theorem r_int1b {k : Bool} {H : Hp} {Q : L2.VK} (q : Q (.int (if k = true then 1 else 0)) H) : rInt1 [.bl k] H Q := .inr ⟨k, rfl, q⟩
theorem wTag_mul (way : Nat) (n : Int) : n * (if decide (way ∈ [1, 3, 5, 6]) = true then 1 else 0) = wTag way n := by
  unfold wTag
  by_cases h : way ∈ [1, 3, 5, 6]
  · rw [if_pos (decide_eq_true h), Int.mul_one, if_pos (by simpa using h)]
  · rw [if_neg (by simpa using h), Int.mul_zero, if_neg (by simpa using h)]
def HTy (W : Addr → Prop) (H : Hp) (v : V) (k : Nat) : Prop := v = .non ∨ (∃ j : Int, v = .int j) ∨ (∃ a ys, v = .ref a ∧ H a = some (.tup ys)) ∨ (∃ a ys, v = .ref a ∧ W a ∧ H a = some (.lst ys) ∧ ys.length ≤ k)
theorem HTy.mono {W : Addr → Prop} {H : Hp} {v : V} {k : Nat} (h : HTy W H v k) : HTy W H v (k + 1) := by
  rcases h with h | h | h | ⟨a, ys, h1, h2, h3, h4⟩
  · exact .inl h
  · exact .inr (.inl h)
  · exact .inr (.inr (.inl h))
  · exact .inr (.inr (.inr ⟨a, ys, h1, h2, h3, by omega⟩))
theorem HTy.same {W : Addr → Prop} {H H' : Hp} {v : V} {k : Nat} (h : HTy W H v k) (s : ∀ b o, v = .ref b → H b = some o → H' b = some o) : HTy W H' v k := by
  rcases h with h | h | ⟨a, ys, h1, h2⟩ | ⟨a, ys, h1, h2, h3, h4⟩
  · exact .inl h
  · exact .inr (.inl h)
  · exact .inr (.inr (.inl ⟨a, ys, h1, s _ _ h1 h2⟩))
  · exact .inr (.inr (.inr ⟨a, ys, h1, h2, s _ _ h1 h3, h4⟩))
theorem HTy.app {W : Addr → Prop} {H : Hp} {v x : V} {k : Nat} {p : Addr} {xs : List V} (h : HTy W H v k) (e : H p = some (.lst xs)) (hl : xs.length ≤ k) : HTy W (upd H p (.lst (xs ++ [x]))) v (k + 1) := by
  rcases h with h | h | ⟨a, ys, h1, h2⟩ | ⟨a, ys, h1, h2, h3, h4⟩
  · exact .inl h
  · exact .inr (.inl h)
  · refine .inr (.inr (.inl ⟨a, ys, h1, ?_⟩))
    rw [upd_ne (fun z => by rw [z, e] at h2; cases h2)]
    exact h2
  · by_cases z : a = p
    · subst z
      exact .inr (.inr (.inr ⟨a, _, h1, h2, upd_same, by rw [List.length_append, List.length_singleton]; omega⟩))
    · exact .inr (.inr (.inr ⟨a, ys, h1, h2, (upd_ne z).trans h3, by omega⟩))
theorem HTy.of {W : Addr → Prop} {H : Hp} {v : V} {z : FV} (h : FvR W false H z v) (hl : z.nums.length ≤ 4) : HTy W H v 10 := by
  rcases z with (_ | n) | l
  · exact .inl h
  · exact .inr (.inl ⟨_, h⟩)
  · obtain ⟨a, rfl, hw, h | ⟨z, _⟩⟩ := h
    · refine .inr (.inr (.inr ⟨a, _, rfl, hw, h, ?_⟩))
      rw [numsV_len]
      simp only [FV.nums] at hl
      omega
    · cases z
def spLMore (C D CG : Addr) : Sp := fun vs H Q _ => ∃ (p c L T g S : Addr) (B0 : Hp) (F A B : Addr → Prop) (rows : List Row) (ts : List Tg) (m1 t1 m2 t2 o : Str), vs = [.ref p, .ref L, .ref g, .ref T] ∧ PenAt B0 p c ∧ PenStep p c B0 H ∧ RowsAt B0 L rows ∧ SchOk rows ∧ SchN C D B0 rows S p ∧ (∀ n, n ∈ names rows → fieldsF rows n = famFs m1 t1 m2 t2 o) ∧ Duo CG F H S rows ts g T A B ∧ ¬ F p ∧ (∀ a, F a → B0 a = none) ∧ ts.length < 12 ∧ heldN ts ≤ 8 * ts.length ∧
  ∀ (us : List Tg) (F' A' B' : Addr → Prop) H', PenStep p c B0 H' → Frm (fun b => F b ∨ b = p) H H' → Duo CG F' H' S rows us g T A' B' → (∀ a, F' a → F a ∨ H a = none) → us.length = ts.length + 1 → heldN us ≤ 8 * us.length → Q (.bl true) H'
end Wm
namespace Wm
open PySem L2
structure Wg (C D CG p c L S qG qM g1 g2 T1 T2 : Addr) (rows : List Row) (ts1 ts2 : List Tg) (F1 F2 : Addr → Prop) (B0 H : Hp) : Prop where
  hp0 : PenAt B0 p c
  st : PenStep p c B0 H
  hR : RowsAt B0 L rows
  sn : SchN C D B0 rows S p
  d1 : ∃ A B, Duo CG F1 H S rows ts1 g1 T1 A B
  d2 : ∃ A B, Duo CG F2 H S rows ts2 g2 T2 A B
  n1 : ∀ a, F1 a → B0 a = none ∧ a ≠ qG ∧ a ≠ qM
  n2 : ∀ a, F2 a → B0 a = none ∧ a ≠ qG ∧ a ≠ qM
  dis : ∀ a, F1 a → ¬ F2 a
  eG : H qG = some (.lst [.ref g1, .ref g2])
  eM : H qM = some (.lst [.ref T1, .ref T2])
section
variable {C D CG p c L S qG qM g1 g2 T1 T2 : Addr} {rows : List Row} {ts1 ts2 us : List Tg} {F1 F2 F' : Addr → Prop} {B0 H H' : Hp}
theorem Wg.np1 (W : Wg C D CG p c L S qG qM g1 g2 T1 T2 rows ts1 ts2 F1 F2 B0 H) : ¬ F1 p := fun z => by
  obtain ⟨o, ho⟩ := W.hp0.some_p
  rw [(W.n1 _ z).1] at ho
  cases ho
theorem Wg.np2 (W : Wg C D CG p c L S qG qM g1 g2 T1 T2 rows ts1 ts2 F1 F2 B0 H) : ¬ F2 p := fun z => by
  obtain ⟨o, ho⟩ := W.hp0.some_p
  rw [(W.n2 _ z).1] at ho
  cases ho
theorem Wg.step (W : Wg C D CG p c L S qG qM g1 g2 T1 T2 rows ts1 ts2 F1 F2 B0 H) (s : PenStep p c H H') : Wg C D CG p c L S qG qM g1 g2 T1 T2 rows ts1 ts2 F1 F2 B0 H' := by
  obtain ⟨A1, B1, d1⟩ := W.d1
  obtain ⟨A2, B2, d2⟩ := W.d2
  exact { W with st := W.st.trans s, d1 := ⟨_, _, d1.step s W.np1⟩, d2 := ⟨_, _, d2.step s W.np2⟩, eG := s.at W.st.pen W.eG rfl, eM := s.at W.st.pen W.eM rfl }
theorem Wg.same (W : Wg C D CG p c L S qG qM g1 g2 T1 T2 rows ts1 ts2 F1 F2 B0 H) (s : Same H H') : Wg C D CG p c L S qG qM g1 g2 T1 T2 rows ts1 ts2 F1 F2 B0 H' := W.step (W.st.pen.step s)
theorem Wg.ch1 (W : Wg C D CG p c L S qG qM g1 g2 T1 T2 rows ts1 ts2 F1 F2 B0 H) (st : PenStep p c B0 H') (fr : Frm (fun b => F1 b ∨ b = p) H H') (d : ∃ A B, Duo CG F' H' S rows us g1 T1 A B) (hF : ∀ a, F' a → F1 a ∨ H a = none) : Wg C D CG p c L S qG qM g1 g2 T1 T2 rows us ts2 F' F2 B0 H' := by
  obtain ⟨A2, B2, d2⟩ := W.d2
  have pg := W.st.pen.ne W.eG rfl
  have pm := W.st.pen.ne W.eM rfl
  have hn : ∀ a, F' a → B0 a = none ∧ a ≠ qG ∧ a ≠ qM := fun a z => by
    rcases hF a z with z | z
    · exact W.n1 a z
    · exact ⟨W.st.free z, fun q => (by rw [q, W.eG] at z; cases z), fun q => (by rw [q, W.eM] at z; cases z)⟩
  refine { W with st := st, d1 := d, d2 := ⟨_, _, d2.kps (fr.kps fun b z1 z2 => z2.elim (fun z => W.dis b z z1) fun z => W.np2 (z ▸ z1))⟩, n1 := hn, dis := fun a z1 z2 => ?_, eG := fr _ _ (fun z => z.elim (fun z => (W.n1 _ z).2.1 rfl) pg) W.eG, eM := fr _ _ (fun z => z.elim (fun z => (W.n1 _ z).2.2 rfl) pm) W.eM }
  rcases hF a z1 with z | z
  · exact W.dis a z z2
  · obtain ⟨o, ho⟩ := d2.lv a z2
    rw [z] at ho
    cases ho
theorem Wg.ch2 (W : Wg C D CG p c L S qG qM g1 g2 T1 T2 rows ts1 ts2 F1 F2 B0 H) (st : PenStep p c B0 H') (fr : Frm (fun b => F2 b ∨ b = p) H H') (d : ∃ A B, Duo CG F' H' S rows us g2 T2 A B) (hF : ∀ a, F' a → F2 a ∨ H a = none) : Wg C D CG p c L S qG qM g1 g2 T1 T2 rows ts1 us F1 F' B0 H' := by
  obtain ⟨A1, B1, d1⟩ := W.d1
  have pg := W.st.pen.ne W.eG rfl
  have pm := W.st.pen.ne W.eM rfl
  have hn : ∀ a, F' a → B0 a = none ∧ a ≠ qG ∧ a ≠ qM := fun a z => by
    rcases hF a z with z | z
    · exact W.n2 a z
    · exact ⟨W.st.free z, fun q => (by rw [q, W.eG] at z; cases z), fun q => (by rw [q, W.eM] at z; cases z)⟩
  refine { W with st := st, d2 := d, d1 := ⟨_, _, d1.kps (fr.kps fun b z1 z2 => z2.elim (fun z => W.dis b z1 z) fun z => W.np1 (z ▸ z1))⟩, n2 := hn, dis := fun a z1 z2 => ?_, eG := fr _ _ (fun z => z.elim (fun z => (W.n2 _ z).2.1 rfl) pg) W.eG, eM := fr _ _ (fun z => z.elim (fun z => (W.n2 _ z).2.2 rfl) pm) W.eM }
  rcases hF a z2 with z | z
  · exact W.dis a z1 z
  · obtain ⟨o, ho⟩ := d1.lv a z1
    rw [z] at ho
    cases ho
end
theorem Duo.mk0 {CG S g tl T dx : Addr} {rows : List Row} {H : Hp} (eg : H g = some (.ins CG dx (gfsF S tl 0 0))) (et : H tl = some (.lst [])) (eT : H T = some (.lst [])) (ne : T ≠ tl) : ∃ A B, Duo CG (fun b => b = g ∨ b = tl ∨ b = T) H S rows [] g T A B := by
  refine ⟨fun b => b = g ∨ b = tl, fun b => b = T, ⟨⟨dx, tl, [], eg, .inl rfl, et, .inr rfl, .nil, .nil, .nil⟩, ⟨[], rfl, eT, .nil⟩, fun a z => z.elim .inl fun z => .inr (.inl z), fun a z => .inr (.inr z), fun a z1 z2 => ?_, fun a z => ?_, ⟨Nat.zero_le _, fun t ht => (by cases ht), Nat.zero_le _⟩⟩⟩
  · subst z2
    rcases z1 with z | z
    · rw [z, eg] at eT
      cases eT
    · exact ne z
  · rcases z with rfl | rfl | rfl
    · exact ⟨_, eg⟩
    · exact ⟨_, et⟩
    · exact ⟨_, eT⟩
end Wm
namespace Wm
open PySem L2
def top (i : Nat) : Stmt := PySem.Challenge.pw_walkmarks_k08_things_added.main.body.getD i (.Pass ⟨0, 0, 0, 0⟩)
abbrev s_is_letters : Stmt := top 18
abbrev s_is_kind_name : Stmt := top 19
abbrev s_is_field_name : Stmt := top 20
abbrev s_is_mode : Stmt := top 21
abbrev s_is_field : Stmt := top 35
abbrev s_is_bases : Stmt := top 36
abbrev s_Kind_init : Stmt := inClass (top 37) 0
abbrev s_make_kind : Stmt := top 38
abbrev s_Schema_init : Stmt := inClass (top 39) 2
abbrev s_Schema_getitem : Stmt := inClass (top 39) 8
abbrev s_is_integer : Stmt := top 17
abbrev s_Schema_is_under : Stmt := inClass (top 39) 11
abbrev s_is_concrete : Stmt := top 24
abbrev s_is_tag : Stmt := top 25
abbrev s_is_member : Stmt := top 26
abbrev s_is_value : Stmt := top 27
abbrev s_kept_value : Stmt := top 28
abbrev s_empty_value : Stmt := top 29
abbrev s_numbers_in : Stmt := top 30
abbrev s_Graph_init : Stmt := inClass (top 32) 2
abbrev s_Graph_append_thing : Stmt := inClass (top 32) 4
abbrev s_Graph_check_thing : Stmt := inClass (top 32) 14
abbrev s_Graph_len : Stmt := inClass (top 32) 6
abbrev s_Graph_row : Stmt := inClass (top 32) 23
abbrev s_Graph_all_rows : Stmt := inClass (top 32) 24
abbrev s_Schema_eq : Stmt := inClass (top 39) 9
abbrev s_l_pen : Stmt := top 43
abbrev s_l_take : Stmt := top 44
abbrev s_l_bit : Stmt := top 45
abbrev s_l_letters : Stmt := top 47
abbrev s_l_names : Stmt := top 48
abbrev s_l_kind_names : Stmt := top 49
abbrev s_l_line : Stmt := top 50
abbrev s_l_fields : Stmt := top 51
abbrev s_l_concrete : Stmt := top 52
abbrev s_l_under : Stmt := top 53
abbrev s_l_tag : Stmt := top 54
abbrev s_l_targets : Stmt := top 55
abbrev s_l_value : Stmt := top 56
abbrev s_l_copied : Stmt := top 57
abbrev s_l_numbers : Stmt := top 58
abbrev s_l_held : Stmt := top 59
abbrev s_l_size : Stmt := top 61
abbrev s_l_is_integer : Stmt := top 46
abbrev s_l_shows : Stmt := top 62
abbrev s_l_empty : Stmt := top 60
abbrev s_l_family : Stmt := top 63
abbrev s_l_added : Stmt := top 64
abbrev s_l_one_more : Stmt := top 65
abbrev s_law : Stmt := top 66
abbrev s_Graph_size : Stmt := inClass (top 32) 10
abbrev s_Graph_root : Stmt := inClass (top 32) 11
abbrev s_Graph_add : Stmt := inClass (top 32) 5
theorem sc_is_letters : FnScope ["text", "letter"] ["text"] (defScope s_is_letters) := ⟨rfl, rfl, rfl, by decide +kernel, rfl, by decide +kernel, by decide +kernel⟩
theorem sc_is_kind_name : FnScope ["thing"] ["thing"] (defScope s_is_kind_name) := ⟨rfl, rfl, rfl, by decide +kernel, rfl, by decide +kernel, by decide +kernel⟩
theorem sc_is_field_name : FnScope ["thing"] ["thing"] (defScope s_is_field_name) := ⟨rfl, rfl, rfl, by decide +kernel, rfl, by decide +kernel, by decide +kernel⟩
theorem sc_is_mode : FnScope ["thing"] ["thing"] (defScope s_is_mode) := ⟨rfl, rfl, rfl, by decide +kernel, rfl, by decide +kernel, by decide +kernel⟩
theorem sc_is_field : FnScope ["thing", "targets", "name", "mode", "target"] ["thing", "targets"] (defScope s_is_field) := ⟨rfl, rfl, rfl, by decide +kernel, rfl, by decide +kernel, by decide +kernel⟩
theorem sc_is_bases : FnScope ["thing", "names", "name"] ["thing", "names"] (defScope s_is_bases) := ⟨rfl, rfl, rfl, by decide +kernel, rfl, by decide +kernel, by decide +kernel⟩
theorem sc_Kind_init : FnScope ["self", "row", "known", "line", "base", "at", "name", "fields", "owned", "field", "mode", "target"] ["self", "row", "known"] (defScope s_Kind_init) := ⟨rfl, rfl, rfl, by decide +kernel, rfl, by decide +kernel, by decide +kernel⟩
theorem sc_make_kind : FnScope ["row", "known", "targets", "name", "bases", "is_abstract", "own", "field", "kind", "names"] ["row", "known", "targets"] (defScope s_make_kind) := ⟨rfl, rfl, rfl, by decide +kernel, rfl, by decide +kernel, by decide +kernel⟩
theorem sc_Schema_init : FnScope ["self", "rows", "targets", "row", "known", "at", "kind", "name"] ["self", "rows"] (defScope s_Schema_init) := ⟨rfl, rfl, rfl, by decide +kernel, rfl, by decide +kernel, by decide +kernel⟩
theorem sc_Schema_getitem : FnScope ["self", "name"] ["self", "name"] (defScope s_Schema_getitem) := ⟨rfl, rfl, rfl, by decide +kernel, rfl, by decide +kernel, by decide +kernel⟩
theorem sc_is_integer : FnScope ["thing"] ["thing"] (defScope s_is_integer) := ⟨rfl, rfl, rfl, by decide +kernel, rfl, by decide +kernel, by decide +kernel⟩
theorem sc_Schema_is_under : FnScope ["self", "name", "other", "below", "above"] ["self", "name", "other"] (defScope s_Schema_is_under) := ⟨rfl, rfl, rfl, by decide +kernel, rfl, by decide +kernel, by decide +kernel⟩
theorem sc_is_concrete : FnScope ["schema", "thing"] ["schema", "thing"] (defScope s_is_concrete) := ⟨rfl, rfl, rfl, by decide +kernel, rfl, by decide +kernel, by decide +kernel⟩
theorem sc_is_tag : FnScope ["thing"] ["thing"] (defScope s_is_tag) := ⟨rfl, rfl, rfl, by decide +kernel, rfl, by decide +kernel, by decide +kernel⟩
theorem sc_is_member : FnScope ["schema", "kinds", "target", "number"] ["schema", "kinds", "target", "number"] (defScope s_is_member) := ⟨rfl, rfl, rfl, by decide +kernel, rfl, by decide +kernel, by decide +kernel⟩
theorem sc_is_value : FnScope ["schema", "kinds", "mode", "target", "value", "number"] ["schema", "kinds", "mode", "target", "value"] (defScope s_is_value) := ⟨rfl, rfl, rfl, by decide +kernel, rfl, by decide +kernel, by decide +kernel⟩
theorem sc_kept_value : FnScope ["mode", "value"] ["mode", "value"] (defScope s_kept_value) := ⟨rfl, rfl, rfl, by decide +kernel, rfl, by decide +kernel, by decide +kernel⟩
theorem sc_empty_value : FnScope ["mode"] ["mode"] (defScope s_empty_value) := ⟨rfl, rfl, rfl, by decide +kernel, rfl, by decide +kernel, by decide +kernel⟩
theorem sc_numbers_in : FnScope ["value"] ["value"] (defScope s_numbers_in) := ⟨rfl, rfl, rfl, by decide +kernel, rfl, by decide +kernel, by decide +kernel⟩
theorem sc_Graph_init : FnScope ["self", "schema"] ["self", "schema"] (defScope s_Graph_init) := ⟨rfl, rfl, rfl, by decide +kernel, rfl, by decide +kernel, by decide +kernel⟩
theorem sc_Graph_append_thing : FnScope ["self", "kind", "tag", "fields", "values", "name", "mode", "target", "owner"] ["self", "kind", "tag", "fields"] (defScope s_Graph_append_thing) := ⟨rfl, rfl, rfl, by decide +kernel, rfl, by decide +kernel, by decide +kernel⟩
theorem sc_Graph_check_thing : FnScope ["self", "thing"] ["self", "thing"] (defScope s_Graph_check_thing) := ⟨rfl, rfl, rfl, by decide +kernel, rfl, by decide +kernel, by decide +kernel⟩
theorem sc_Graph_len : FnScope ["self"] ["self"] (defScope s_Graph_len) := ⟨rfl, rfl, rfl, by decide +kernel, rfl, by decide +kernel, by decide +kernel⟩
theorem sc_Graph_row : FnScope ["self", "thing", "kind", "tag", "values", "copied", "name", "value"] ["self", "thing"] (defScope s_Graph_row) := ⟨rfl, rfl, rfl, by decide +kernel, rfl, by decide +kernel, by decide +kernel⟩
theorem sc_Graph_all_rows : FnScope ["self", "thing"] ["self"] (defScope s_Graph_all_rows) := ⟨rfl, rfl, rfl, by decide +kernel, rfl, by decide +kernel, by decide +kernel⟩
theorem sc_Schema_eq : FnScope ["self", "other"] ["self", "other"] (defScope s_Schema_eq) := ⟨rfl, rfl, rfl, by decide +kernel, rfl, by decide +kernel, by decide +kernel⟩
theorem sc_l_pen : FnScope ["_law_script", "_law_total", "_law_cell"] ["_law_script"] (defScope s_l_pen) := ⟨rfl, rfl, rfl, by decide +kernel, rfl, by decide +kernel, by decide +kernel⟩
theorem sc_l_take : FnScope ["_law_pen_here", "_law_bound", "_law_cell", "_law_mixed", "_law_digit"] ["_law_pen_here", "_law_bound"] (defScope s_l_take) := ⟨rfl, rfl, rfl, by decide +kernel, rfl, by decide +kernel, by decide +kernel⟩
theorem sc_l_bit : FnScope ["_law_pen_here", "_law_bound"] ["_law_pen_here", "_law_bound"] (defScope s_l_bit) := ⟨rfl, rfl, rfl, by decide +kernel, rfl, by decide +kernel, by decide +kernel⟩
theorem sc_l_letters : FnScope ["_law_pen_here", "_law_place", "_law_index", "_law_offset", "_law_plain", "_law_letters_here", "_law_size_here", "_law_chosen", "_law_k"] ["_law_pen_here", "_law_place", "_law_index", "_law_offset", "_law_plain"] (defScope s_l_letters) := ⟨rfl, rfl, rfl, by decide +kernel, rfl, by decide +kernel, by decide +kernel⟩
theorem sc_l_names : FnScope ["_law_pen_here", "_law_count", "_law_plain", "_law_place", "_law_offset", "_law_k"] ["_law_pen_here", "_law_count"] (defScope s_l_names) := ⟨rfl, rfl, rfl, by decide +kernel, rfl, by decide +kernel, by decide +kernel⟩
theorem sc_l_kind_names : FnScope ["_law_pen_here", "_law_count", "_law_name"] ["_law_pen_here", "_law_count"] (defScope s_l_kind_names) := ⟨rfl, rfl, rfl, by decide +kernel, rfl, by decide +kernel, by decide +kernel⟩
theorem sc_l_line : FnScope ["_law_rows", "_law_name", "_law_lines", "_law_row", "_law_line_here", "_law_base", "_law_k"] ["_law_rows", "_law_name"] (defScope s_l_line) := ⟨rfl, rfl, rfl, by decide +kernel, rfl, by decide +kernel, by decide +kernel⟩
theorem sc_l_fields : FnScope ["_law_rows", "_law_name", "_law_owned", "_law_row", "_law_line_here", "_law_found", "_law_k", "_law_owner", "_law_field"] ["_law_rows", "_law_name"] (defScope s_l_fields) := ⟨rfl, rfl, rfl, by decide +kernel, rfl, by decide +kernel, by decide +kernel⟩
theorem sc_l_concrete : FnScope ["_law_rows", "_law_row"] ["_law_rows"] (defScope s_l_concrete) := ⟨rfl, rfl, rfl, by decide +kernel, rfl, by decide +kernel, by decide +kernel⟩
theorem sc_l_under : FnScope ["_law_rows", "_law_name", "_law_one"] ["_law_rows", "_law_name"] (defScope s_l_under) := ⟨rfl, rfl, rfl, by decide +kernel, rfl, by decide +kernel, by decide +kernel⟩
theorem sc_l_tag : FnScope ["_law_pen_here", "_law_shift"] ["_law_pen_here"] (defScope s_l_tag) := ⟨rfl, rfl, rfl, by decide +kernel, rfl, by decide +kernel, by decide +kernel⟩
theorem sc_l_targets : FnScope ["_law_rows", "_law_kinds", "_law_target", "_law_under_here", "_law_k"] ["_law_rows", "_law_kinds", "_law_target"] (defScope s_l_targets) := ⟨rfl, rfl, rfl, by decide +kernel, rfl, by decide +kernel, by decide +kernel⟩
theorem sc_l_value : FnScope ["_law_pen_here", "_law_rows", "_law_kinds", "_law_mode", "_law_target", "_law_cap", "_law_numbers_here", "_law_at", "_law_k"] ["_law_pen_here", "_law_rows", "_law_kinds", "_law_mode", "_law_target", "_law_cap"] (defScope s_l_value) := ⟨rfl, rfl, rfl, by decide +kernel, rfl, by decide +kernel, by decide +kernel⟩
theorem sc_l_copied : FnScope ["_law_value_here"] ["_law_value_here"] (defScope s_l_copied) := ⟨rfl, rfl, rfl, by decide +kernel, rfl, by decide +kernel, by decide +kernel⟩
theorem sc_l_numbers : FnScope ["_law_value_here"] ["_law_value_here"] (defScope s_l_numbers) := ⟨rfl, rfl, rfl, by decide +kernel, rfl, by decide +kernel, by decide +kernel⟩
theorem sc_l_held : FnScope ["_law_rows", "_law_row", "_law_found", "_law_field"] ["_law_rows", "_law_row"] (defScope s_l_held) := ⟨rfl, rfl, rfl, by decide +kernel, rfl, by decide +kernel, by decide +kernel⟩
theorem sc_l_size : FnScope ["_law_rows", "_law_things", "_law_total", "_law_row"] ["_law_rows", "_law_things"] (defScope s_l_size) := ⟨rfl, rfl, rfl, by decide +kernel, rfl, by decide +kernel, by decide +kernel⟩
theorem sc_l_is_integer : FnScope ["_law_thing"] ["_law_thing"] (defScope s_l_is_integer) := ⟨rfl, rfl, rfl, by decide +kernel, rfl, by decide +kernel, by decide +kernel⟩
theorem sc_l_shows : FnScope ["_law_graph", "_law_rows", "_law_things", "_law_root_due", "_law_told", "_law_row", "_law_name", "_law_field"] ["_law_graph", "_law_rows", "_law_things", "_law_root_due"] (defScope s_l_shows) := ⟨rfl, rfl, rfl, by decide +kernel, rfl, by decide +kernel, by decide +kernel⟩
theorem sc_l_empty : FnScope ["_law_mode"] ["_law_mode"] (defScope s_l_empty) := ⟨rfl, rfl, rfl, by decide +kernel, rfl, by decide +kernel, by decide +kernel⟩
theorem sc_l_family : FnScope ["_law_pen_here", "_law_count", "_law_names_here", "_law_modes", "_law_targets_here", "_law_rows", "_law_k", "_law_base"] ["_law_pen_here"] (defScope s_l_family) := ⟨rfl, rfl, rfl, by decide +kernel, rfl, by decide +kernel, by decide +kernel⟩
theorem sc_l_added : FnScope ["_law_graph", "_law_way", "_law_kind", "_law_number", "_law_first", "_law_second"] ["_law_graph", "_law_way", "_law_kind", "_law_number", "_law_first", "_law_second"] (defScope s_l_added) := ⟨rfl, rfl, rfl, by decide +kernel, rfl, by decide +kernel, by decide +kernel⟩
theorem sc_l_one_more : FnScope ["_law_pen_here", "_law_rows", "_law_graph", "_law_things", "_law_kind", "_law_kinds", "_law_row", "_law_fields_here", "_law_first", "_law_second", "_law_number", "_law_way", "_law_values", "_law_told", "_law_handed"] ["_law_pen_here", "_law_rows", "_law_graph", "_law_things"] (defScope s_l_one_more) := ⟨rfl, rfl, rfl, by decide +kernel, rfl, by decide +kernel, by decide +kernel⟩
theorem sc_law : FnScope ["_law_script", "_law_pen_here", "_law_rows", "_law_schema", "_law_graphs", "_law_models", "_law_turn", "_law_at"] ["_law_script"] (defScope s_law) := ⟨rfl, rfl, rfl, by decide +kernel, rfl, by decide +kernel, by decide +kernel⟩
theorem sc_Graph_size : FnScope ["self"] ["self"] (defScope s_Graph_size) := ⟨rfl, rfl, rfl, by decide +kernel, rfl, by decide +kernel, by decide +kernel⟩
theorem sc_Graph_root : FnScope ["self"] ["self"] (defScope s_Graph_root) := ⟨rfl, rfl, rfl, by decide +kernel, rfl, by decide +kernel, by decide +kernel⟩
theorem sc_Graph_add : FnScope ["self", "kind", "tag", "fields", "described", "names", "name", "mode", "target", "owner", "kinds", "thing", "count"] ["self", "kind", "tag", "fields"] (defScope s_Graph_add) := ⟨rfl, rfl, rfl, by decide +kernel, rfl, by decide +kernel, by decide +kernel⟩
abbrev s_BadSchema_init : Stmt := inClass (top 3) 0
abbrev s_NoKind_init : Stmt := inClass (top 5) 0
abbrev s_BadTag_init : Stmt := inClass (top 7) 0
abbrev s_NoField_init : Stmt := inClass (top 6) 0
abbrev s_BadValue_init : Stmt := inClass (top 8) 0
abbrev s_NoThing_init : Stmt := inClass (top 9) 0
abbrev s_TooMany_init : Stmt := inClass (top 11) 0
set_option genInjectivity false in
set_option genSizeOf false in
structure Ad where
  (MODES RESERVED BadSchema NoKind BadTag NoField BadValue NoThing TooMany Kind Schema Graph Graph_size p_Graph_size Graph_root p_Graph_root Graph_add is_letters is_kind_name is_field_name is_mode is_field is_bases Kind_init make_kind Schema_init Schema_getitem is_integer Schema_is_under is_concrete is_tag is_member is_value kept_value empty_value numbers_in Graph_init Graph_append_thing Graph_check_thing Graph_len Graph_row Graph_all_rows Schema_eq l_pen l_take l_bit l_letters l_names l_kind_names l_line l_fields l_concrete l_under l_tag l_targets l_value l_copied l_numbers l_held l_size l_is_integer l_shows l_empty l_family l_added l_one_more law : Addr)
  (fd_Graph_size fd_Graph_root fd_Graph_add fd_is_letters fd_is_kind_name fd_is_field_name fd_is_mode fd_is_field fd_is_bases fd_Kind_init fd_make_kind fd_Schema_init fd_Schema_getitem fd_is_integer fd_Schema_is_under fd_is_concrete fd_is_tag fd_is_member fd_is_value fd_kept_value fd_empty_value fd_numbers_in fd_Graph_init fd_Graph_append_thing fd_Graph_check_thing fd_Graph_len fd_Graph_row fd_Graph_all_rows fd_Schema_eq fd_l_pen fd_l_take fd_l_bit fd_l_letters fd_l_names fd_l_kind_names fd_l_line fd_l_fields fd_l_concrete fd_l_under fd_l_tag fd_l_targets fd_l_value fd_l_copied fd_l_numbers fd_l_held fd_l_size fd_l_is_integer fd_l_shows fd_l_empty fd_l_family fd_l_added fd_l_one_more fd_law : FuncData)
structure Txt (P : Program) (K : PySem.W.Frag) (mg : Str → Option Value) (ad : Ad) : Prop where
  n_len : mg "len" = none
  n_int : mg "int" = none
  n_list : mg "list" = none
  n_range : mg "range" = none
  n_isinstance : mg "isinstance" = none
  n_str : mg "str" = none
  n_tuple : mg "tuple" = none
  n_set : mg "set" = none
  n_enumerate : mg "enumerate" = none
  n_reversed : mg "reversed" = none
  n_all : mg "all" = none
  n_repr : mg "repr" = none
  n_bool : mg "bool" = none
  c_MODES : ∀ H, SqT K H ad.MODES (MODESl.map V.str)
  g_MODES : mg "MODES" = some (.ref ad.MODES)
  c_RESERVED : ∀ H, SqT K H ad.RESERVED (RESl.map V.str)
  g_RESERVED : mg "RESERVED" = some (.ref ad.RESERVED)
  u_CAPITALS : ∃ u, mg "CAPITALS" = some u ∧ RelV (.str CAPS) u
  u_LETTERS : ∃ u, mg "LETTERS" = some u ∧ RelV (.str LOWS) u
  u_MOST_BASES : ∃ u, mg "MOST_BASES" = some u ∧ RelV (.int 3) u
  g_BadSchema : mg "BadSchema" = some (.ref ad.BadSchema)
  er_BadSchema : ErC P K "BadSchema.__init__" ["at"] ad.BadSchema
  te_BadSchema : PySem.W.exmOne K (.ref ad.BadSchema) (.ref ad.BadSchema) = some true
  xf_BadSchema : XfC K ad.BadSchema
  no_BadSchema_at : PySem.W.findIn K (.ref ad.BadSchema) "at" = some none
  g_NoKind : mg "NoKind" = some (.ref ad.NoKind)
  er_NoKind : ErC P K "NoKind.__init__" ["kind"] ad.NoKind
  te_NoKind : PySem.W.exmOne K (.ref ad.NoKind) (.ref ad.NoKind) = some true
  xf_NoKind : XfC K ad.NoKind
  no_NoKind_kind : PySem.W.findIn K (.ref ad.NoKind) "kind" = some none
  g_BadTag : mg "BadTag" = some (.ref ad.BadTag)
  er_BadTag : ErC P K "BadTag.__init__" ["tag"] ad.BadTag
  te_BadTag : PySem.W.exmOne K (.ref ad.BadTag) (.ref ad.BadTag) = some true
  xf_BadTag : XfC K ad.BadTag
  no_BadTag_tag : PySem.W.findIn K (.ref ad.BadTag) "tag" = some none
  g_NoField : mg "NoField" = some (.ref ad.NoField)
  er_NoField : ErC P K "NoField.__init__" ["kind", "field"] ad.NoField
  te_NoField : PySem.W.exmOne K (.ref ad.NoField) (.ref ad.NoField) = some true
  xf_NoField : XfC K ad.NoField
  no_NoField_kind : PySem.W.findIn K (.ref ad.NoField) "kind" = some none
  no_NoField_field : PySem.W.findIn K (.ref ad.NoField) "field" = some none
  g_BadValue : mg "BadValue" = some (.ref ad.BadValue)
  er_BadValue : ErC P K "BadValue.__init__" ["field"] ad.BadValue
  te_BadValue : PySem.W.exmOne K (.ref ad.BadValue) (.ref ad.BadValue) = some true
  xf_BadValue : XfC K ad.BadValue
  no_BadValue_field : PySem.W.findIn K (.ref ad.BadValue) "field" = some none
  g_NoThing : mg "NoThing" = some (.ref ad.NoThing)
  er_NoThing : ErC P K "NoThing.__init__" ["thing"] ad.NoThing
  te_NoThing : PySem.W.exmOne K (.ref ad.NoThing) (.ref ad.NoThing) = some true
  xf_NoThing : XfC K ad.NoThing
  no_NoThing_thing : PySem.W.findIn K (.ref ad.NoThing) "thing" = some none
  g_TooMany : mg "TooMany" = some (.ref ad.TooMany)
  er_TooMany : ErC P K "TooMany.__init__" ["what"] ad.TooMany
  te_TooMany : PySem.W.exmOne K (.ref ad.TooMany) (.ref ad.TooMany) = some true
  xf_TooMany : XfC K ad.TooMany
  no_TooMany_what : PySem.W.findIn K (.ref ad.TooMany) "what" = some none
  g_Kind : mg "Kind" = some (.ref ad.Kind)
  ow_Kind : OwnC K ad.Kind
  no_Kind_name : NoAttr K ad.Kind "name"
  no_Kind_bases : NoAttr K ad.Kind "bases"
  no_Kind_is_abstract : NoAttr K ad.Kind "is_abstract"
  no_Kind_own : NoAttr K ad.Kind "own"
  no_Kind_line : NoAttr K ad.Kind "line"
  no_Kind_fields : NoAttr K ad.Kind "fields"
  g_Schema : mg "Schema" = some (.ref ad.Schema)
  ow_Schema : OwnC K ad.Schema
  no_Schema_rows : NoAttr K ad.Schema "rows"
  no_Schema_names : NoAttr K ad.Schema "names"
  no_Schema_known : NoAttr K ad.Schema "known"
  nf_Schema : ∀ t, t ∈ ["NoneType", "bool", "int", "str", "list", "tuple", "dict"] → PySem.W.notFirst K ad.Schema (.type t) = true
  nfo_Schema : PySem.W.notFirst K ad.Schema (.ref ad.Schema) = true
  cr_Schema_MOST : ∃ mc u, ClX.CRead K ad.Schema mc ∧ ClX.CVal K ad.Schema mc "MOST" (.int 6) u
  cr_Schema_FIELDS : ∃ mc u, ClX.CRead K ad.Schema mc ∧ ClX.CVal K ad.Schema mc "FIELDS" (.int 4) u
  n_dict : mg "dict" = none
  n_sorted : mg "sorted" = none
  u_MOST_TAG : ∃ u, mg "MOST_TAG" = some u ∧ RelV (.int 1000000000000000000000000000000) u
  g_Graph : mg "Graph" = some (.ref ad.Graph)
  ow_Graph : OwnC K ad.Graph
  no_Graph_schema : NoAttr K ad.Graph "schema"
  no_Graph_things : NoAttr K ad.Graph "things"
  no_Graph_root_thing : NoAttr K ad.Graph "root_thing"
  no_Graph_held : NoAttr K ad.Graph "held"
  nf_Graph : ∀ t, t ∈ ["NoneType", "bool", "int", "str", "list", "tuple", "dict"] → PySem.W.notFirst K ad.Graph (.type t) = true
  nfo_Graph : PySem.W.notFirst K ad.Graph (.ref ad.Graph) = true
  cr_Graph_THINGS : ∃ mc u, ClX.CRead K ad.Graph mc ∧ ClX.CVal K ad.Graph mc "THINGS" (.int 400) u
  cr_Graph_REFERENCES : ∃ mc u, ClX.CRead K ad.Graph mc ∧ ClX.CVal K ad.Graph mc "REFERENCES" (.int 1600) u
  F_Graph_size : Fun K "size" "Graph.size" s_Graph_size ad.Graph_size ad.fd_Graph_size
  b_Graph_size : Binds K ad.fd_Graph_size ["self"] []
  pp_Graph_size : PropOf K ad.Graph "size" ad.p_Graph_size ad.Graph_size
  F_Graph_root : Fun K "root" "Graph.root" s_Graph_root ad.Graph_root ad.fd_Graph_root
  b_Graph_root : Binds K ad.fd_Graph_root ["self"] []
  pp_Graph_root : PropOf K ad.Graph "root" ad.p_Graph_root ad.Graph_root
  F_Graph_add : FunD K "add" "Graph.add" (defArgs s_Graph_add) (defBody s_Graph_add) (defScope s_Graph_add) [] [("tag", .int 0)] ad.Graph_add ad.fd_Graph_add
  me_Graph_add : Meth K ad.Graph "add" ad.Graph_add
  g_is_letters : mg "is_letters" = some (.ref ad.is_letters)
  F_is_letters : Fun K "is_letters" "is_letters" s_is_letters ad.is_letters ad.fd_is_letters
  b_is_letters : Binds K ad.fd_is_letters ["text"] []
  g_is_kind_name : mg "is_kind_name" = some (.ref ad.is_kind_name)
  F_is_kind_name : Fun K "is_kind_name" "is_kind_name" s_is_kind_name ad.is_kind_name ad.fd_is_kind_name
  b_is_kind_name : Binds K ad.fd_is_kind_name ["thing"] []
  g_is_field_name : mg "is_field_name" = some (.ref ad.is_field_name)
  F_is_field_name : Fun K "is_field_name" "is_field_name" s_is_field_name ad.is_field_name ad.fd_is_field_name
  b_is_field_name : Binds K ad.fd_is_field_name ["thing"] []
  g_is_mode : mg "is_mode" = some (.ref ad.is_mode)
  F_is_mode : Fun K "is_mode" "is_mode" s_is_mode ad.is_mode ad.fd_is_mode
  b_is_mode : Binds K ad.fd_is_mode ["thing"] []
  g_is_field : mg "is_field" = some (.ref ad.is_field)
  F_is_field : Fun K "is_field" "is_field" s_is_field ad.is_field ad.fd_is_field
  b_is_field : Binds K ad.fd_is_field ["thing", "targets"] []
  g_is_bases : mg "is_bases" = some (.ref ad.is_bases)
  F_is_bases : Fun K "is_bases" "is_bases" s_is_bases ad.is_bases ad.fd_is_bases
  b_is_bases : Binds K ad.fd_is_bases ["thing", "names"] []
  F_Kind_init : Fun K "__init__" "Kind.__init__" s_Kind_init ad.Kind_init ad.fd_Kind_init
  b_Kind_init : Binds K ad.fd_Kind_init ["self", "row", "known"] []
  me_Kind_init : Meth K ad.Kind "__init__" ad.Kind_init
  g_make_kind : mg "make_kind" = some (.ref ad.make_kind)
  F_make_kind : Fun K "make_kind" "make_kind" s_make_kind ad.make_kind ad.fd_make_kind
  b_make_kind : Binds K ad.fd_make_kind ["row", "known", "targets"] []
  F_Schema_init : Fun K "__init__" "Schema.__init__" s_Schema_init ad.Schema_init ad.fd_Schema_init
  b_Schema_init : Binds K ad.fd_Schema_init ["self", "rows"] []
  me_Schema_init : Meth K ad.Schema "__init__" ad.Schema_init
  F_Schema_getitem : Fun K "__getitem__" "Schema.__getitem__" s_Schema_getitem ad.Schema_getitem ad.fd_Schema_getitem
  b_Schema_getitem : Binds K ad.fd_Schema_getitem ["self", "name"] []
  me_Schema_getitem : Meth K ad.Schema "__getitem__" ad.Schema_getitem
  g_is_integer : mg "is_integer" = some (.ref ad.is_integer)
  F_is_integer : Fun K "is_integer" "is_integer" s_is_integer ad.is_integer ad.fd_is_integer
  b_is_integer : Binds K ad.fd_is_integer ["thing"] []
  F_Schema_is_under : Fun K "is_under" "Schema.is_under" s_Schema_is_under ad.Schema_is_under ad.fd_Schema_is_under
  b_Schema_is_under : Binds K ad.fd_Schema_is_under ["self", "name", "other"] []
  me_Schema_is_under : Meth K ad.Schema "is_under" ad.Schema_is_under
  g_is_concrete : mg "is_concrete" = some (.ref ad.is_concrete)
  F_is_concrete : Fun K "is_concrete" "is_concrete" s_is_concrete ad.is_concrete ad.fd_is_concrete
  b_is_concrete : Binds K ad.fd_is_concrete ["schema", "thing"] []
  g_is_tag : mg "is_tag" = some (.ref ad.is_tag)
  F_is_tag : Fun K "is_tag" "is_tag" s_is_tag ad.is_tag ad.fd_is_tag
  b_is_tag : Binds K ad.fd_is_tag ["thing"] []
  g_is_member : mg "is_member" = some (.ref ad.is_member)
  F_is_member : Fun K "is_member" "is_member" s_is_member ad.is_member ad.fd_is_member
  b_is_member : Binds K ad.fd_is_member ["schema", "kinds", "target", "number"] []
  g_is_value : mg "is_value" = some (.ref ad.is_value)
  F_is_value : Fun K "is_value" "is_value" s_is_value ad.is_value ad.fd_is_value
  b_is_value : Binds K ad.fd_is_value ["schema", "kinds", "mode", "target", "value"] []
  g_kept_value : mg "kept_value" = some (.ref ad.kept_value)
  F_kept_value : Fun K "kept_value" "kept_value" s_kept_value ad.kept_value ad.fd_kept_value
  b_kept_value : Binds K ad.fd_kept_value ["mode", "value"] []
  g_empty_value : mg "empty_value" = some (.ref ad.empty_value)
  F_empty_value : Fun K "empty_value" "empty_value" s_empty_value ad.empty_value ad.fd_empty_value
  b_empty_value : Binds K ad.fd_empty_value ["mode"] []
  g_numbers_in : mg "numbers_in" = some (.ref ad.numbers_in)
  F_numbers_in : Fun K "numbers_in" "numbers_in" s_numbers_in ad.numbers_in ad.fd_numbers_in
  b_numbers_in : Binds K ad.fd_numbers_in ["value"] []
  F_Graph_init : Fun K "__init__" "Graph.__init__" s_Graph_init ad.Graph_init ad.fd_Graph_init
  b_Graph_init : Binds K ad.fd_Graph_init ["self", "schema"] []
  me_Graph_init : Meth K ad.Graph "__init__" ad.Graph_init
  F_Graph_append_thing : Fun K "append_thing" "Graph.append_thing" s_Graph_append_thing ad.Graph_append_thing ad.fd_Graph_append_thing
  b_Graph_append_thing : Binds K ad.fd_Graph_append_thing ["self", "kind", "tag", "fields"] []
  me_Graph_append_thing : Meth K ad.Graph "append_thing" ad.Graph_append_thing
  F_Graph_check_thing : Fun K "check_thing" "Graph.check_thing" s_Graph_check_thing ad.Graph_check_thing ad.fd_Graph_check_thing
  b_Graph_check_thing : Binds K ad.fd_Graph_check_thing ["self", "thing"] []
  me_Graph_check_thing : Meth K ad.Graph "check_thing" ad.Graph_check_thing
  F_Graph_len : Fun K "__len__" "Graph.__len__" s_Graph_len ad.Graph_len ad.fd_Graph_len
  b_Graph_len : Binds K ad.fd_Graph_len ["self"] []
  me_Graph_len : Meth K ad.Graph "__len__" ad.Graph_len
  F_Graph_row : Fun K "row" "Graph.row" s_Graph_row ad.Graph_row ad.fd_Graph_row
  b_Graph_row : Binds K ad.fd_Graph_row ["self", "thing"] []
  me_Graph_row : Meth K ad.Graph "row" ad.Graph_row
  F_Graph_all_rows : Fun K "all_rows" "Graph.all_rows" s_Graph_all_rows ad.Graph_all_rows ad.fd_Graph_all_rows
  b_Graph_all_rows : Binds K ad.fd_Graph_all_rows ["self"] []
  me_Graph_all_rows : Meth K ad.Graph "all_rows" ad.Graph_all_rows
  F_Schema_eq : Fun K "__eq__" "Schema.__eq__" s_Schema_eq ad.Schema_eq ad.fd_Schema_eq
  b_Schema_eq : Binds K ad.fd_Schema_eq ["self", "other"] []
  me_Schema_eq : Meth K ad.Schema "__eq__" ad.Schema_eq
  g_l_pen : mg "_law_pen" = some (.ref ad.l_pen)
  F_l_pen : Fun K "_law_pen" "_law_pen" s_l_pen ad.l_pen ad.fd_l_pen
  b_l_pen : Binds K ad.fd_l_pen ["_law_script"] []
  g_l_take : mg "_law_take" = some (.ref ad.l_take)
  F_l_take : Fun K "_law_take" "_law_take" s_l_take ad.l_take ad.fd_l_take
  b_l_take : Binds K ad.fd_l_take ["_law_pen_here", "_law_bound"] []
  g_l_bit : mg "_law_bit" = some (.ref ad.l_bit)
  F_l_bit : Fun K "_law_bit" "_law_bit" s_l_bit ad.l_bit ad.fd_l_bit
  b_l_bit : Binds K ad.fd_l_bit ["_law_pen_here", "_law_bound"] []
  g_l_letters : mg "_law_letters" = some (.ref ad.l_letters)
  F_l_letters : Fun K "_law_letters" "_law_letters" s_l_letters ad.l_letters ad.fd_l_letters
  b_l_letters : Binds K ad.fd_l_letters ["_law_pen_here", "_law_place", "_law_index", "_law_offset", "_law_plain"] []
  g_l_names : mg "_law_names" = some (.ref ad.l_names)
  F_l_names : Fun K "_law_names" "_law_names" s_l_names ad.l_names ad.fd_l_names
  b_l_names : Binds K ad.fd_l_names ["_law_pen_here", "_law_count"] []
  g_l_kind_names : mg "_law_kind_names" = some (.ref ad.l_kind_names)
  F_l_kind_names : Fun K "_law_kind_names" "_law_kind_names" s_l_kind_names ad.l_kind_names ad.fd_l_kind_names
  b_l_kind_names : Binds K ad.fd_l_kind_names ["_law_pen_here", "_law_count"] []
  g_l_line : mg "_law_line" = some (.ref ad.l_line)
  F_l_line : Fun K "_law_line" "_law_line" s_l_line ad.l_line ad.fd_l_line
  b_l_line : Binds K ad.fd_l_line ["_law_rows", "_law_name"] []
  g_l_fields : mg "_law_fields" = some (.ref ad.l_fields)
  F_l_fields : Fun K "_law_fields" "_law_fields" s_l_fields ad.l_fields ad.fd_l_fields
  b_l_fields : Binds K ad.fd_l_fields ["_law_rows", "_law_name"] []
  g_l_concrete : mg "_law_concrete" = some (.ref ad.l_concrete)
  F_l_concrete : Fun K "_law_concrete" "_law_concrete" s_l_concrete ad.l_concrete ad.fd_l_concrete
  b_l_concrete : Binds K ad.fd_l_concrete ["_law_rows"] []
  g_l_under : mg "_law_under" = some (.ref ad.l_under)
  F_l_under : Fun K "_law_under" "_law_under" s_l_under ad.l_under ad.fd_l_under
  b_l_under : Binds K ad.fd_l_under ["_law_rows", "_law_name"] []
  g_l_tag : mg "_law_tag" = some (.ref ad.l_tag)
  F_l_tag : Fun K "_law_tag" "_law_tag" s_l_tag ad.l_tag ad.fd_l_tag
  b_l_tag : Binds K ad.fd_l_tag ["_law_pen_here"] []
  g_l_targets : mg "_law_targets" = some (.ref ad.l_targets)
  F_l_targets : Fun K "_law_targets" "_law_targets" s_l_targets ad.l_targets ad.fd_l_targets
  b_l_targets : Binds K ad.fd_l_targets ["_law_rows", "_law_kinds", "_law_target"] []
  g_l_value : mg "_law_value" = some (.ref ad.l_value)
  F_l_value : Fun K "_law_value" "_law_value" s_l_value ad.l_value ad.fd_l_value
  b_l_value : Binds K ad.fd_l_value ["_law_pen_here", "_law_rows", "_law_kinds", "_law_mode", "_law_target", "_law_cap"] []
  g_l_copied : mg "_law_copied" = some (.ref ad.l_copied)
  F_l_copied : Fun K "_law_copied" "_law_copied" s_l_copied ad.l_copied ad.fd_l_copied
  b_l_copied : Binds K ad.fd_l_copied ["_law_value_here"] []
  g_l_numbers : mg "_law_numbers" = some (.ref ad.l_numbers)
  F_l_numbers : Fun K "_law_numbers" "_law_numbers" s_l_numbers ad.l_numbers ad.fd_l_numbers
  b_l_numbers : Binds K ad.fd_l_numbers ["_law_value_here"] []
  g_l_held : mg "_law_held" = some (.ref ad.l_held)
  F_l_held : Fun K "_law_held" "_law_held" s_l_held ad.l_held ad.fd_l_held
  b_l_held : Binds K ad.fd_l_held ["_law_rows", "_law_row"] []
  g_l_size : mg "_law_size" = some (.ref ad.l_size)
  F_l_size : Fun K "_law_size" "_law_size" s_l_size ad.l_size ad.fd_l_size
  b_l_size : Binds K ad.fd_l_size ["_law_rows", "_law_things"] []
  g_l_is_integer : mg "_law_is_integer" = some (.ref ad.l_is_integer)
  F_l_is_integer : Fun K "_law_is_integer" "_law_is_integer" s_l_is_integer ad.l_is_integer ad.fd_l_is_integer
  b_l_is_integer : Binds K ad.fd_l_is_integer ["_law_thing"] []
  g_l_shows : mg "_law_shows" = some (.ref ad.l_shows)
  F_l_shows : Fun K "_law_shows" "_law_shows" s_l_shows ad.l_shows ad.fd_l_shows
  b_l_shows : Binds K ad.fd_l_shows ["_law_graph", "_law_rows", "_law_things", "_law_root_due"] []
  g_l_empty : mg "_law_empty" = some (.ref ad.l_empty)
  F_l_empty : Fun K "_law_empty" "_law_empty" s_l_empty ad.l_empty ad.fd_l_empty
  b_l_empty : Binds K ad.fd_l_empty ["_law_mode"] []
  g_l_family : mg "_law_family" = some (.ref ad.l_family)
  F_l_family : Fun K "_law_family" "_law_family" s_l_family ad.l_family ad.fd_l_family
  b_l_family : Binds K ad.fd_l_family ["_law_pen_here"] []
  g_l_added : mg "_law_added" = some (.ref ad.l_added)
  F_l_added : Fun K "_law_added" "_law_added" s_l_added ad.l_added ad.fd_l_added
  b_l_added : Binds K ad.fd_l_added ["_law_graph", "_law_way", "_law_kind", "_law_number", "_law_first", "_law_second"] []
  g_l_one_more : mg "_law_one_more" = some (.ref ad.l_one_more)
  F_l_one_more : Fun K "_law_one_more" "_law_one_more" s_l_one_more ad.l_one_more ad.fd_l_one_more
  b_l_one_more : Binds K ad.fd_l_one_more ["_law_pen_here", "_law_rows", "_law_graph", "_law_things"] []
  F_law : Fun K "law" "law" s_law ad.law ad.fd_law
  mk_Kind : Mk K ad.Kind ad.Kind_init
  mk_Schema : Mk K ad.Schema ad.Schema_init
  mk_Graph : Mk K ad.Graph ad.Graph_init
end Wm
def PySem.W.Fast.tw13717153971875872096 : Nat := 0
def PySem.W.Fast.tw11418401598547477122 : Nat := 0
def PySem.W.Fast.tw16683432608207379587 : Nat := 0
def PySem.W.Fast.tw7642542824591086371 : Nat := 0
def PySem.W.Fast.tw4976634560945236548 : Nat := 0
def PySem.W.Fast.tw8160933524342617221 : Nat := 0
def PySem.W.Fast.tw3214387498634226406 : Nat := 0
def PySem.W.Fast.tw6449247496823608615 : Nat := 0
def PySem.W.Fast.tw6717553337037126697 : Nat := 0
def PySem.W.Fast.tw12180575440305094954 : Nat := 0
def PySem.W.Fast.tw12339213530118542186 : Nat := 0
def PySem.W.Fast.tw13414846292776133644 : Nat := 0
def PySem.W.Fast.tw12555240280846877038 : Nat := 0
def PySem.W.Fast.tw15932506439611702926 : Nat := 0
def PySem.W.Fast.tw6817698759498254639 : Nat := 0
def PySem.W.Fast.tw3966823972443155087 : Nat := 0
def PySem.W.Fast.tw14323519868242123024 : Nat := 0
def PySem.W.Fast.tw9446439520293111536 : Nat := 0
def PySem.W.Fast.tw6643719848260008433 : Nat := 0
def PySem.W.Fast.tw481195495968628433 : Nat := 0
def PySem.W.Fast.tw9983399747008335890 : Nat := 0
def PySem.W.Fast.tw4236578254199759058 : Nat := 0
def PySem.W.Fast.tw8538529340675976339 : Nat := 0
def PySem.W.Fast.tw5259523620026837108 : Nat := 0
def PySem.W.Fast.tw10134654705363381876 : Nat := 0
def PySem.W.Fast.tw2506821153968077237 : Nat := 0
def PySem.W.Fast.tw8301331001821005365 : Nat := 0
def PySem.W.Fast.tw3435996286431613717 : Nat := 0
def PySem.W.Fast.tw2763067797516878645 : Nat := 0
def PySem.W.Fast.tw9333791749479726584 : Nat := 0
def PySem.W.Fast.tw6637240692756080633 : Nat := 0
def PySem.W.Fast.tw15839415915534404283 : Nat := 0
def PySem.W.Fast.tw2942309848560555803 : Nat := 0
def PySem.W.Fast.tw18375588004178333500 : Nat := 0
def PySem.W.Fast.tw13031387840892910460 : Nat := 0
def PySem.W.Fast.tw2753473275990565085 : Nat := 0
def PySem.W.Fast.tw2066848620973147517 : Nat := 0
def PySem.W.Fast.tw1784296664602123103 : Nat := 0
def PySem.W.Fast.tw12348535920669307743 : Nat := 0
def PySem.W.Fast.tw15126635906023662495 : Nat := 0
def PySem.W.Fast.tw635989638549106314 : Nat := 0
open PySem PySem.W PyProof.Rows in
set_option maxRecDepth 100000 in
set_option maxHeartbeats 0 in
open_top PySem.Challenge.top_walkmarks_k08_things_added for PySem.Challenge.rw_walkmarks_k08_things_added
set_option compiler.extract_closed false
local macro_rules | `(tactic| walk_at "w_ne") => `(tactic| first
  | with_reducible assumption
  | ((with_reducible refine' Ne.symm ?h1); (case h1 => with_reducible assumption))
  | ((with_reducible refine' L2.ne_of_none ?h1 ?h2); (case h2 => with_reducible assumption); (case h1 => walk_at "w_hp"))
  | ((with_reducible refine' Ne.symm (L2.ne_of_none ?h1 ?h2)); (case h2 => with_reducible assumption); (case h1 => walk_at "w_hp"))
  | exact L2.ne_of (by with_reducible assumption) (by with_reducible assumption) (by intro z; cases z)
  | fail "no way")
local macro_rules | `(tactic| walk_at "w_pen") => `(tactic| first
  | with_reducible assumption
  | ((with_reducible refine' Wm.PenStep.pen ?h1); (case h1 => with_reducible assumption))
  | ((with_reducible refine' Wm.PenAt.same ?h1 ?h2); (case h2 => ((with_reducible refine' Wm.same_new ?h9); (case h9 => with_reducible assumption))); (case h1 => walk_at "w_pen"))
  | ((with_reducible refine' Wm.PenAt.same ?h1 ?h2); (case h2 => with_reducible assumption); (case h1 => walk_at "w_pen"))
  | ((with_reducible refine' Wm.PenAt.put ?h1 ?h2); (case h2 => walk_at "w_pne"); (case h1 => walk_at "w_pen"))
  | fail "no way")
local macro_rules | `(tactic| walk_at "w_pne") => `(tactic| first
  | with_reducible assumption
  | ((with_reducible refine' Wm.PenAt.ne_new ?h1 ?h2); (case h2 => with_reducible assumption); (case h1 => walk_at "w_pen"))
  | ((with_reducible refine' Wm.PenAt.ne_new ?h1 ?h2); (case h1 => with_reducible assumption); (case h2 => walk_at "w_fr"))
  | fail "no way")
local macro_rules | `(tactic| walk_at "w_fr") => `(tactic| first
  | with_reducible assumption
  | ((with_reducible refine' Wm.PenStep.free ?h1 ?h2); (case h2 => with_reducible assumption); (case h1 => walk_at "w_step"))
  | fail "no way")
local macro_rules | `(tactic| walk_at "w_step") => `(tactic| first
  | with_reducible assumption
  | ((with_reducible refine' Wm.PenStep.refl ?h1); (case h1 => walk_at "w_pen"))
  | ((with_reducible refine' Wm.PenStep.same ?h1 ?h2); (case h2 => ((with_reducible refine' Wm.same_new ?h9); (case h9 => with_reducible assumption))); (case h1 => walk_at "w_step"))
  | ((with_reducible refine' Wm.PenStep.trans ?h1 ?h2); (case h2 => with_reducible assumption); (case h1 => walk_at "w_step"))
  | ((with_reducible refine' Wm.PenStep.same ?h1 ?h2); (case h2 => with_reducible assumption); (case h1 => walk_at "w_step"))
  | ((with_reducible refine' Wm.PenStep.put ?h1 ?h2 ?h3); (case h2 => walk_at "w_pen"); (case h3 => walk_at "w_fr"); (case h1 => walk_at "w_step"))
  | fail "no way")
local macro_rules | `(tactic| walk_at "w_frs") => `(tactic| first
  | with_reducible assumption
  | ((with_reducible refine' L2.Same.free ?h1 ?h2); (case h2 => with_reducible assumption); (case h1 => walk_at "w_same"))
  | fail "no way")
local macro_rules | `(tactic| walk_at "w_same") => `(tactic| first
  | with_reducible assumption
  | with_reducible exact L2.Same.refl _
  | ((with_reducible refine' Wm.same_put ?h1 ?h2); (case h2 => walk_at "w_frs"); (case h1 => walk_at "w_same"))
  | ((with_reducible refine' L2.Same.trans ?h1 ?h2); (case h2 => with_reducible assumption); (case h1 => walk_at "w_same"))
  | fail "no way")
local macro_rules | `(tactic| walk_at "w_hp") => `(tactic| first
  | with_reducible assumption
  | with_reducible exact L2.upd_same
  | ((with_reducible refine Eq.trans (L2.upd_ne ?_) ?_); (walk_at "w_ne"); (walk_at "w_hp"))
  | ((with_reducible refine' Wm.Same.at ?h1 ?h2); (case h1 => with_reducible assumption); (case h2 => walk_at "w_hp"))
  | ((with_reducible refine' Wm.PenStep.at ?h1 ?h2 ?h4 ?h3); (case h1 => with_reducible assumption); (case h2 => walk_at "w_pen"); (case h4 => walk_at "w_hp"); (case h3 => rfl))
  | ((with_reducible refine' Wm.PenStep.atd ?h1 ?h4 ?h3); (case h1 => with_reducible assumption); (case h4 => walk_at "w_hp"); (case h3 => walk_at "w_ne"))
  | fail "no way")
local macro_rules | `(tactic| walk_at "w_sz") => `(tactic| first
  | (rw [PySem.sizeLine_eq]; exact (by decide))
  | (rw [PySem.sizeLine_eq]; simp only [List.length_map, List.length_cons, List.length_nil, List.length_append, List.length_set] at *; omega)
  | exact Wm.sl6 _ _ _ _ _ _
  | fail "no way")
local macro_rules | `(tactic| walk_at "w_side") => `(tactic| first
  | rfl
  | assumption
  | omega
  | (refine ⟨?_, ?_⟩ <;> (walk_at "w_side"))
  | decide
  | fail "no way")
local macro_rules | `(tactic| walk_at "w_val") => `(tactic| first
  | exact Wm.pk_get_start _ _ _ _ _ _ | exact Wm.pk_get_guards _ _ _ _ _ _ | exact Wm.pk_get_out _ _ _ _ _ _ | exact Wm.pk_get_anew _ _ _ _ _ _ | exact Wm.pk_get_limit _ _ _ _ _ _ | exact Wm.pk_get_frees _ _ _ _ _ _
  | exact Wm.wk_get_guards _ _ _ _ _ _ | exact Wm.wk_get_out _ _ _ _ _ _ | exact Wm.wk_get_anew _ _ _ _ _ _ | exact Wm.wk_get_limit _ _ _ _ _ _ | exact Wm.wk_get_frees _ _ _ _ _ _ | exact Wm.wk_get_start _ _ _ _ _ _
  | exact Wm.pk_get_cells _ _ _ _ _ _ | exact Wm.pk_get_at _ _ _ _ _ _ | exact Wm.pk_get_rest _ _ _ _ _ _ | exact Wm.pk_get_digits _ _ _ _ _ _ | exact Wm.pk_get_mix _ _ _ _ _ _ | exact Wm.pk_get_turn _ _ _ _ _ _
  | rfl
  | fail "no way")
local macro_rules | `(tactic| walk_at "w_put") => `(tactic| first
  | exact Wm.wk_put_limit _ _ _ _ _ _ _
  | exact Wm.pk_put_at _ _ _ _ _ _ _ | exact Wm.pk_put_rest _ _ _ _ _ _ _ | exact Wm.pk_put_digits _ _ _ _ _ _ _ | exact Wm.pk_put_mix _ _ _ _ _ _ _ | exact Wm.pk_put_turn _ _ _ _ _ _ _
  | rfl
  | fail "no way")
local macro_rules | `(tactic| walk_at "w_putf") => `(tactic| rfl)
local macro_rules | `(tactic| walk_at "w_d") => `(tactic| (refine Wm.r_dispE _ _ (by walk_at "w_hp") (by rfl) (by first | decide | simp) (by rfl) ?_))
local macro_rules | `(tactic| walk_at "w_len") => `(tactic| first
  | (rw [PySem.sizeLine_eq]; (try simp only [PySem.Str.length_append] at *); (try simp only [show (PySem.Str.ofString " ").length = 1 from rfl, show (PySem.Str.ofString ", ").length = 2 from rfl, show (PySem.Str.ofString " of ").length = 4 from rfl, show (PySem.Str.ofString "walk ").length = 5 from rfl, show (PySem.Str.ofString "limit ").length = 6 from rfl, show (PySem.Str.ofString "guard ").length = 6 from rfl, show (PySem.Str.ofString "out ").length = 4 from rfl, show (PySem.Str.ofString "anew ").length = 5 from rfl, show (PySem.Str.ofString "out").length = 3 from rfl, show (PySem.Str.ofString "anew").length = 4 from rfl, show PySem.Str.empty.length = 0 from rfl]); omega)
  | fail "no way")
local macro_rules | `(tactic| walk_at "w_x") => `(tactic| first
  | ((with_reducible refine' Wm.r_split ?h1 ?h2 ?_); (case h1 => rfl); (case h2 => (rw [PySem.sizeLine_eq]; omega)); (intro q H' nq sq eq))
  | with_reducible refine Wm.r_tyS ?_
  | ((with_reducible refine' Wm.r_slT ?h1 ?h2 ?_); (case h1 => first | (refine L2.SqT.of ?_; walk_at "w_hp") | assumption); (case h2 => decide); (intro q H' nq sq eq))
  | ((with_reducible refine' Wm.r_slS ?h1 ?_); (case h1 => (rw [PySem.sizeLine_eq]; omega)))
  | with_reducible refine Wm.r_fmt ?_
  | ((with_reducible refine' Wm.r_fmtS ?h1 ?_); (case h1 => (rw [PySem.sizeLine_eq]; omega)))
  | with_reducible refine Wm.r_joinF ?_
  | with_reducible refine Wm.r_js0 ?_
  | with_reducible refine Wm.r_jsC ?_
  | ((with_reducible refine' Wm.r_jsE ?h1 ?_); (case h1 => walk_at "w_len"))
  | with_reducible refine Wm.r_strBk ?_
  | with_reducible refine Wm.r_yes ?_
  | with_reducible refine Wm.ite_ns ?_
  | with_reducible refine Wm.r_starA ?_
  | with_reducible refine Wm.r_dc ?_
  | ((with_reducible refine' Wm.r_makeL ?h1 ?_); (case h1 => rfl))
  | with_reducible refine Wm.r_ifW ?_
  | with_reducible refine Wm.r_wCmp ?_
  | with_reducible refine Wm.r_wNm ?_
  | with_reducible refine Wm.r_wE ?_
  | with_reducible refine Wm.ite_es ?_
  | ((with_reducible refine' Wm.r_ixTK ?h1 ?h2 ?_); (case h1 => walk_at "w_hp"); (case h2 => rfl))
  | ((with_reducible refine' Wm.r_addS ?h1 ?_); (case h1 => walk_at "w_len"))
  | with_reducible refine Wm.r_isNn ?_
  | ((with_reducible refine' Wm.r_lenS ?h1 ?_); (case h1 => (rw [PySem.sizeLine_eq]; omega)))
  | with_reducible refine Wm.r_notNn ?_
  | with_reducible refine Wm.r_cmeth ?_
  | with_reducible refine Wm.r_cmethT ?_
  | with_reducible refine Wm.r_cmethK ?_
  | ((with_reducible refine' Wm.r_makeKL ?h1 ?_); (case h1 => rfl))
  | with_reducible refine Wm.r_is ?_
  | with_reducible refine Wm.r_isK ?_
  | with_reducible refine Wm.r_ie ?_
  | with_reducible refine Wm.r_iv ?_
  | with_reducible refine Wm.r_iky ?_
  | with_reducible refine Wm.r_chain ?_
  | with_reducible refine Wm.r_lenSet ?_
  | with_reducible refine Wm.r_dIn ?_
  | with_reducible refine Wm.r_dNotIn ?_
  | with_reducible refine Wm.r_prop ?_
  | ((with_reducible refine' Wm.r_propK ?h1 ?_); (case h1 => walk_at "w_hp"))
  | with_reducible refine Wm.r_inSign ?_
  | ((with_reducible refine' Wm.r_lenTK ?h1 ?_); (case h1 => walk_at "w_hp"))
  | ((with_reducible refine' Wm.r_listTK ?h1 ?_); (case h1 => walk_at "w_hp"); (intro q H' nq sq eq))
  | fail "no way")
local macro_rules | `(tactic| walk_at "w_s") => `(tactic| first
  | with_reducible refine L2.iteT ?_
  | with_reducible refine L2.iteF ?_
  | with_reducible refine Wm.iteNF ?_
  | with_reducible refine Wm.iteNT ?_
  | with_reducible refine Wm.r_seq ?_
  | with_reducible refine Wm.r_next ?_
  | with_reducible refine Wm.r_asg ?_
  | ((with_reducible refine' Wm.r_gname ?h1 ?_); (case h1 => (simp only [List.set_cons_succ, List.set_cons_zero]; rfl)))
  | with_reducible refine Wm.r_ret ?_
  | with_reducible refine Wm.r_drop ?_
  | with_reducible refine Wm.r_ifs ?_
  | ((with_reducible refine' Wm.r_var ?h1 ?_); (case h1 => rfl))
  | with_reducible refine Wm.r_c ?_
  | with_reducible refine Wm.r_op ?_
  | with_reducible refine Wm.r_i0 ?_
  | ((with_reducible refine' Wm.r_i ?h1 ?_); (case h1 => walk_at "w_arith"))
  | with_reducible refine Wm.r_eqi ?_
  | with_reducible refine Wm.r_eqs ?_
  | with_reducible refine Wm.r_eqb ?_
  | with_reducible refine Wm.r_nei ?_
  | with_reducible refine Wm.r_nes ?_
  | with_reducible refine Wm.r_neb ?_
  | with_reducible refine Wm.r_test ?_
  | with_reducible refine Wm.r_tb ?_
  | with_reducible refine Wm.r_bl ?_
  | with_reducible refine Wm.r_and ?_
  | with_reducible refine Wm.r_or ?_
  | with_reducible refine Wm.r_not ?_
  | with_reducible refine Wm.r_andV ?_
  | with_reducible refine Wm.r_orV ?_
  | with_reducible refine Wm.r_notV ?_
  | with_reducible refine Wm.r_if ?_
  | with_reducible refine Wm.r_nil ?_
  | with_reducible refine Wm.r_cons ?_
  | with_reducible refine Wm.r_cb ?_
  | with_reducible refine Wm.r_call ?_
  | with_reducible refine Wm.r_dget ?_
  | with_reducible refine Wm.r_dput ?_
  | with_reducible refine Wm.r_int1 ?_
  | with_reducible refine Wm.r_lst ?_
  | ((with_reducible refine' Wm.r_lstE ?h1 ?_); (case h1 => walk_at "w_sz"); (intro q H' nq sq eq))
  | ((with_reducible refine' Wm.r_tupE ?h1 ?_); (case h1 => walk_at "w_sz"); (intro q H' nq sq eq))
  | with_reducible refine Wm.r_tup ?_
  | with_reducible refine Wm.r_for ?_
  | with_reducible refine Wm.r_il ?_
  | with_reducible refine Wm.r_it ?_
  | with_reducible refine Wm.r_rng1 ?_
  | ((with_reducible refine Wm.r_disp ?_); (intro q H' nq sq eq))
  | with_reducible refine Wm.r_pc ?_
  | with_reducible refine Wm.r_pn ?_
  | with_reducible refine Wm.r_un ?_
  | ((with_reducible refine' Wm.r_cat ?h1 ?h2 ?h3 ?_); (case h1 => walk_at "w_hp"); (case h2 => walk_at "w_hp"); (case h3 => walk_at "w_sz"); (intro q H' nq sq eq))
  | with_reducible refine Wm.r_erV ?_
  | ((with_reducible refine' Wm.r_erVE ?h1 ?h2 ?h3 ?_); (case h1 => rfl); (case h2 => exact Nat.le_of_ble_eq_true rfl); (case h3 => (intro z; cases z)); (intro a d H' na sa ea ed))
  | ((with_reducible refine Wm.r_erVE0 ?_); (intro a H' na sa ea))
  | with_reducible refine Wm.r_erF ?_
  | ((with_reducible refine' Wm.r_erFK ?h1 ?h2 ?h3 ?h4 ?h5 ?_); (case h1 => walk_at "w_hp"); (case h4 => walk_at "w_hp"); (case h2 => assumption); (case h3 => assumption); (case h5 => rfl))
  | with_reducible refine Wm.r_slice ?_
  | with_reducible refine Wm.r_nopart ?_
  | with_reducible refine Wm.r_part ?_
  | with_reducible refine Wm.r_partI ?_
  | ((with_reducible refine' Wm.r_slL ?h1 ?_); (case h1 => walk_at "w_hp"); (intro q H' nq sq eq))
  | with_reducible refine Wm.r_meth ?_
  | with_reducible refine Wm.r_methT ?_
  | ((with_reducible refine' Wm.r_methK ?h1 ?h2 ?_); (case h1 => walk_at "w_hp"); (case h2 => rfl))
  | with_reducible refine Wm.r_lc ?_
  | ((with_reducible refine' Wm.r_addS ?h1 ?_); (case h1 => walk_at "w_sz"))
  | with_reducible refine Wm.r_cval ?_
  | ((with_reducible refine' Wm.r_cvalK ?h1 ?h2 ?_); (case h1 => assumption); (case h2 => assumption))
  | ((with_reducible refine' Wm.r_glst ?h1 ?h2 ?_); (case h1 => walk_at "w_hp"); (case h2 => rfl))
  | with_reducible refine Wm.r_makeKS ?_
  | with_reducible refine Wm.r_makeK ?_
  | with_reducible refine Wm.r_make ?_
  | with_reducible refine Wm.r_mkQ ?_
  | ((with_reducible refine' Wm.r_mkE ?h1 ?h2 ?_); (case h1 => rfl); (case h2 => rfl); (intro x dx H' nx sx ex))
  | ((with_reducible refine Wm.r_mk1E ?_); (intro x dx H' nx sx ex))
  | with_reducible refine Wm.r_xf ?_
  | ((with_reducible refine' Wm.r_xfK ?h1 ?h2 ?_); (case h1 => walk_at "w_hp"); (case h2 => rfl))
  | with_reducible refine Wm.r_raiseEr ?_
  | with_reducible refine Wm.r_erE0 ?_
  | ((with_reducible refine' Wm.r_erE ?h1 ?h2 ?h3 ?_); (case h1 => rfl); (case h2 => exact Nat.le_of_ble_eq_true rfl); (case h3 => (intro z; cases z)); (intro q H' nq sq eq))
  | with_reducible refine Wm.r_neg ?_
  | ((with_reducible refine Wm.r_dnew ?_); (intro q H' nq sq eq))
  | with_reducible refine Wm.r_fld ?_
  | with_reducible refine Wm.r_fldS ?_
  | with_reducible refine Wm.r_gsub ?_
  | with_reducible refine Wm.r_gcons ?_
  | with_reducible refine Wm.r_gnil ?_
  | with_reducible refine Wm.r_bm ?_
  | with_reducible refine Wm.r_bm0 ?_
  | ((with_reducible refine' Wm.r_fldK ?h1 ?h2 ?h3 ?h4 ?_); (case h1 => walk_at "w_hp"); (case h2 => assumption); (case h3 => assumption); (case h4 => rfl))
  | ((with_reducible refine' Wm.r_fldP ?h1 ?h2 ?h3 ?h4 ?h5 ?_); (case h1 => walk_at "w_hp"); (case h2 => assumption); (case h3 => assumption); (case h4 => exact Nat.le_of_ble_eq_true rfl); (case h5 => walk_at "w_putf"))
  | ((with_reducible refine' Wm.r_setL ?h1 ?h2 ?h3 ?_); (case h1 => walk_at "w_hp"); (case h2 => rfl); (case h3 => (simp only [Int.reduceToNat, Int.toNat_one, Int.toNat_zero, List.set_cons_succ, List.set_cons_zero]; rfl)))
  | ((with_reducible refine' Wm.r_gtupK ?h1 ?h2 ?_); (case h1 => walk_at "w_hp"); (case h2 => rfl))
  | ((with_reducible refine' Wm.r_tyLK ?h1 ?_); (case h1 => walk_at "w_hp"))
  | ((with_reducible refine' Wm.r_append ?h1 ?h2 ?_); (case h1 => walk_at "w_hp"); (case h2 => walk_at "w_sz"))
  | ((with_reducible refine' Wm.r_listLK ?h1 ?_); (case h1 => walk_at "w_hp"); (intro q H' nq sq eq))
  | ((with_reducible refine' Wm.r_ixLK ?h1 ?h2 ?_); (case h1 => walk_at "w_hp"); (case h2 => rfl))
  | ((with_reducible refine' Wm.r_dgetK ?h1 ?h2 ?_); (case h1 => walk_at "w_hp"); (case h2 => walk_at "w_val"))
  | ((with_reducible refine' Wm.r_dputU ?h1 ?h2 ?_); (case h1 => walk_at "w_put"); (case h2 => walk_at "w_sz"))
  | ((with_reducible refine' Wm.r_dputK ?h1 ?h2 ?h3 ?_); (case h1 => walk_at "w_hp"); (case h2 => walk_at "w_put"); (case h3 => walk_at "w_sz"))
  | ((with_reducible refine' Wm.r_lenK ?h1 ?_); (case h1 => walk_at "w_hp"))
  | walk_at "w_x"
  | fail "no way")
local macro_rules | `(tactic| walk_at "w_arith") => `(tactic| first
  | assumption
  | exact Wm.pow18
  | exact Wm.wide100 (by assumption) (by assumption)
  | omega
  | exact Or.inr ⟨by decide, by decide⟩
  | exact Or.inl ⟨by omega, by omega⟩
  | exact ⟨by decide, by decide⟩
  | exact ⟨by decide, by decide, by decide⟩
  | fail "no way")
local macro_rules | `(tactic| walk_at "w_go") => `(tactic| repeat walk_at "w_s")
local macro_rules | `(tactic| walk_at "w_br") => `(tactic| ((with_reducible refine Wm.ite_and (fun hbr => ?_) (fun hbr => ?_)) <;> (try simp only [decide_eq_true_eq, decide_eq_false_iff_not, Bool.not_eq_true', Bool.not_eq_false', bne_iff_ne, Bool.not_eq_true, Bool.not_eq_false] at hbr)))
local macro_rules | `(tactic| walk_at "w_leaf") => `(tactic| first
  | k_is
  | kit_is
  | ks_is
  | kx_is
  | rfl
  | decide +kernel
  | fail "no leaf")
local macro_rules | `(tactic| walk_at "w_rel") => `(tactic| first
  | exact ⟨_, rfl⟩
  | exact rfl
  | fail "no way")
local macro_rules | `(tactic| walk_at "w_vals") => `(tactic| (repeat (first | exact PySem.Paired.nil | refine PySem.Paired.cons ⟨_, rfl⟩ ?_ | refine PySem.Paired.cons rfl ?_)))
local macro_rules | `(tactic| walk_at "w_sp") => `(tactic| first
  | with_reducible refine L2.iteT ?_
  | with_reducible refine L2.iteF ?_
  | with_reducible refine Wm.iteNF ?_
  | with_reducible refine Wm.iteNT ?_
  | with_reducible refine Wm.r_seq ?_
  | with_reducible refine Wm.r_next ?_
  | with_reducible refine Wm.r_asg ?_
  | ((with_reducible refine' Wm.r_gname ?h1 ?_); (case h1 => (simp only [List.set_cons_succ, List.set_cons_zero]; rfl)))
  | with_reducible refine Wm.r_ret ?_
  | with_reducible refine Wm.r_drop ?_
  | with_reducible refine Wm.r_ifs ?_
  | ((with_reducible refine' Wm.r_var ?h1 ?_); (case h1 => rfl))
  | with_reducible refine Wm.r_c ?_
  | with_reducible refine Wm.r_op ?_
  | with_reducible refine Wm.r_i0 ?_
  | ((with_reducible refine' Wm.r_i ?h1 ?_); (case h1 => walk_at "w_arith"))
  | with_reducible refine Wm.r_eqi ?_
  | with_reducible refine Wm.r_eqs ?_
  | with_reducible refine Wm.r_eqb ?_
  | with_reducible refine Wm.r_nei ?_
  | with_reducible refine Wm.r_nes ?_
  | with_reducible refine Wm.r_neb ?_
  | with_reducible refine Wm.r_test ?_
  | with_reducible refine Wm.r_tb ?_
  | with_reducible refine Wm.r_bl ?_
  | with_reducible refine Wm.r_not ?_
  | with_reducible refine Wm.r_notV ?_
  | with_reducible refine Wm.r_if ?_
  | with_reducible refine Wm.r_nil ?_
  | with_reducible refine Wm.r_cons ?_
  | with_reducible refine Wm.r_cb ?_
  | with_reducible refine Wm.r_call ?_
  | with_reducible refine Wm.r_dget ?_
  | with_reducible refine Wm.r_dput ?_
  | with_reducible refine Wm.r_int1 ?_
  | with_reducible refine Wm.r_lst ?_
  | ((with_reducible refine' Wm.r_lstE ?h1 ?_); (case h1 => walk_at "w_sz"); (intro q H' nq sq eq))
  | ((with_reducible refine' Wm.r_tupE ?h1 ?_); (case h1 => walk_at "w_sz"); (intro q H' nq sq eq))
  | with_reducible refine Wm.r_tup ?_
  | with_reducible refine Wm.r_for ?_
  | with_reducible refine Wm.r_il ?_
  | with_reducible refine Wm.r_it ?_
  | with_reducible refine Wm.r_rng1 ?_
  | ((with_reducible refine Wm.r_disp ?_); (intro q H' nq sq eq))
  | with_reducible refine Wm.r_pc ?_
  | with_reducible refine Wm.r_pn ?_
  | with_reducible refine Wm.r_un ?_
  | ((with_reducible refine' Wm.r_cat ?h1 ?h2 ?h3 ?_); (case h1 => walk_at "w_hp"); (case h2 => walk_at "w_hp"); (case h3 => walk_at "w_sz"); (intro q H' nq sq eq))
  | with_reducible refine Wm.r_erV ?_
  | ((with_reducible refine' Wm.r_erVE ?h1 ?h2 ?h3 ?_); (case h1 => rfl); (case h2 => exact Nat.le_of_ble_eq_true rfl); (case h3 => (intro z; cases z)); (intro a d H' na sa ea ed))
  | ((with_reducible refine Wm.r_erVE0 ?_); (intro a H' na sa ea))
  | with_reducible refine Wm.r_erF ?_
  | ((with_reducible refine' Wm.r_erFK ?h1 ?h2 ?h3 ?h4 ?h5 ?_); (case h1 => walk_at "w_hp"); (case h4 => walk_at "w_hp"); (case h2 => assumption); (case h3 => assumption); (case h5 => rfl))
  | with_reducible refine Wm.r_slice ?_
  | with_reducible refine Wm.r_nopart ?_
  | with_reducible refine Wm.r_part ?_
  | with_reducible refine Wm.r_partI ?_
  | ((with_reducible refine' Wm.r_slL ?h1 ?_); (case h1 => walk_at "w_hp"); (intro q H' nq sq eq))
  | with_reducible refine Wm.r_meth ?_
  | with_reducible refine Wm.r_methT ?_
  | ((with_reducible refine' Wm.r_methK ?h1 ?h2 ?_); (case h1 => walk_at "w_hp"); (case h2 => rfl))
  | with_reducible refine Wm.r_lc ?_
  | ((with_reducible refine' Wm.r_addS ?h1 ?_); (case h1 => walk_at "w_sz"))
  | with_reducible refine Wm.r_cval ?_
  | ((with_reducible refine' Wm.r_cvalK ?h1 ?h2 ?_); (case h1 => assumption); (case h2 => assumption))
  | ((with_reducible refine' Wm.r_glst ?h1 ?h2 ?_); (case h1 => walk_at "w_hp"); (case h2 => rfl))
  | with_reducible refine Wm.r_makeKS ?_
  | with_reducible refine Wm.r_makeK ?_
  | with_reducible refine Wm.r_make ?_
  | with_reducible refine Wm.r_mkQ ?_
  | ((with_reducible refine' Wm.r_mkE ?h1 ?h2 ?_); (case h1 => rfl); (case h2 => rfl); (intro x dx H' nx sx ex))
  | ((with_reducible refine Wm.r_mk1E ?_); (intro x dx H' nx sx ex))
  | with_reducible refine Wm.r_xf ?_
  | ((with_reducible refine' Wm.r_xfK ?h1 ?h2 ?_); (case h1 => walk_at "w_hp"); (case h2 => rfl))
  | with_reducible refine Wm.r_raiseEr ?_
  | with_reducible refine Wm.r_erE0 ?_
  | ((with_reducible refine' Wm.r_erE ?h1 ?h2 ?h3 ?_); (case h1 => rfl); (case h2 => exact Nat.le_of_ble_eq_true rfl); (case h3 => (intro z; cases z)); (intro q H' nq sq eq))
  | with_reducible refine Wm.r_neg ?_
  | ((with_reducible refine Wm.r_dnew ?_); (intro q H' nq sq eq))
  | with_reducible refine Wm.r_fld ?_
  | with_reducible refine Wm.r_fldS ?_
  | with_reducible refine Wm.r_gsub ?_
  | with_reducible refine Wm.r_gcons ?_
  | with_reducible refine Wm.r_gnil ?_
  | with_reducible refine Wm.r_bm ?_
  | with_reducible refine Wm.r_bm0 ?_
  | ((with_reducible refine' Wm.r_fldK ?h1 ?h2 ?h3 ?h4 ?_); (case h1 => walk_at "w_hp"); (case h2 => assumption); (case h3 => assumption); (case h4 => rfl))
  | ((with_reducible refine' Wm.r_fldP ?h1 ?h2 ?h3 ?h4 ?h5 ?_); (case h1 => walk_at "w_hp"); (case h2 => assumption); (case h3 => assumption); (case h4 => exact Nat.le_of_ble_eq_true rfl); (case h5 => walk_at "w_putf"))
  | ((with_reducible refine' Wm.r_setL ?h1 ?h2 ?h3 ?_); (case h1 => walk_at "w_hp"); (case h2 => rfl); (case h3 => (simp only [Int.reduceToNat, Int.toNat_one, Int.toNat_zero, List.set_cons_succ, List.set_cons_zero]; rfl)))
  | ((with_reducible refine' Wm.r_gtupK ?h1 ?h2 ?_); (case h1 => walk_at "w_hp"); (case h2 => rfl))
  | ((with_reducible refine' Wm.r_tyLK ?h1 ?_); (case h1 => walk_at "w_hp"))
  | ((with_reducible refine' Wm.r_append ?h1 ?h2 ?_); (case h1 => walk_at "w_hp"); (case h2 => walk_at "w_sz"))
  | ((with_reducible refine' Wm.r_listLK ?h1 ?_); (case h1 => walk_at "w_hp"); (intro q H' nq sq eq))
  | ((with_reducible refine' Wm.r_ixLK ?h1 ?h2 ?_); (case h1 => walk_at "w_hp"); (case h2 => rfl))
  | ((with_reducible refine' Wm.r_dgetK ?h1 ?h2 ?_); (case h1 => walk_at "w_hp"); (case h2 => walk_at "w_val"))
  | ((with_reducible refine' Wm.r_dputU ?h1 ?h2 ?_); (case h1 => walk_at "w_put"); (case h2 => walk_at "w_sz"))
  | ((with_reducible refine' Wm.r_dputK ?h1 ?h2 ?h3 ?_); (case h1 => walk_at "w_hp"); (case h2 => walk_at "w_put"); (case h3 => walk_at "w_sz"))
  | ((with_reducible refine' Wm.r_lenK ?h1 ?_); (case h1 => walk_at "w_hp"))
  | walk_at "w_x"
  | fail "no way")
local macro_rules | `(tactic| walk_at "w_gp") => `(tactic| repeat walk_at "w_sp")
local macro_rules | `(tactic| walk_at "w_big") => `(tactic| first
  | kernel_rfl
  | rfl
  | fail "no leaf")
set_option compiler.extract_closed true
namespace Wm
open PySem L2

section
variable {P : Program} {w : World} {K : PySem.W.Frag} {mg : Str → Option Value} {base : Heap} {ad : Ad}
theorem ok_l_take (T : Txt P K mg ad) : FnOk P w K mg base (L2.CX P w) 2 ad.l_take ad.fd_l_take ["_law_pen_here", "_law_bound"] spTake := by
  refine T.F_l_take.okX sc_l_take (fun vs H Q E h => ?_) (fun cdv A outer s H vs Q E hr h => ?_)
  · obtain ⟨p, c, b, rfl, _⟩ := h
    rfl
  obtain ⟨p, c, b, rfl, ⟨ns, a, r, g, m, t, hp, hc, ha, hm, hm2⟩, hb, hb2, k⟩ := h
  have hcp : c ≠ p := ne_of hc hp (by intro z; cases z)
  refine ⟨_, (pss_cons (ps_dput (hu_of hr) (pv 0) pe_str (pe_op op_add (pe_dget (hu_of hr) (pv 0) pe_str (fun _ _ => rfl)) pe_int) rfl)
    (pss_cons (ps_if (PW.pt (pw_and (pt_cmpR op_eq (pe_dget (hu_of hr) (pv 0) pe_str (fun _ _ => rfl)) pe_int (nomark _)) (pw_and1 (pt_cmpR op_lt (pe_dget (hu_of hr) (pv 0) pe_str (fun _ _ => rfl)) (pe_callB c_len (by rfl) T.n_len PySem.boot_len (pa_cons (pe_dget (hu_of hr) (pv 0) pe_str (fun _ _ => rfl)) pa_nil)) (nomark _))))) (pss_cons (ps_set (i := 2) sc_l_take.nd rfl (Or.inl rfl) (pe_ix ix_list (pe_dget (hu_of hr) (pv 0) pe_str (fun _ _ => rfl)) (pe_dget (hu_of hr) (pv 0) pe_str (fun _ _ => rfl)) (fun _ _ => rfl)))
    (pss_cons (ps_dput (hu_of hr) (pv 0) pe_str (pe_op op_add (pe_dget (hu_of hr) (pv 0) pe_str (fun _ _ => rfl)) pe_int) rfl)
    (pss_cons (ps_if (pt_cmpR op_lt (pv 2) (pe_op op_pow pe_int pe_int) (nomark _)) (pss_cons (ps_set (i := 3) sc_l_take.nd rfl (Or.inl rfl) (pe_op op_mod (pe_callTy c_int1 (by rfl) T.n_int (by decide +kernel) (pa_cons (pv 2) pa_nil)) pe_int))
    (pss_cons (ps_set (i := 3) sc_l_take.nd rfl (Or.inl rfl) (pe_op op_mod (pe_callTy c_int1 (by rfl) T.n_int (by decide +kernel) (pa_cons (pe_op op_add (pe_op op_add (pe_op op_mul (pv 3) pe_int) (pe_dget (hu_of hr) (pv 0) pe_str (fun _ _ => rfl))) (pe_op op_mul (pe_dget (hu_of hr) (pv 0) pe_str (fun _ _ => rfl)) pe_int)) pa_nil)) pe_int))
    (pss_cons (ps_dput (hu_of hr) (pv 0) pe_str (pe_op op_mod (pe_callTy c_int1 (by rfl) T.n_int (by decide +kernel) (pa_cons (pe_op op_add (pe_op op_add (pe_op op_mul (pe_dget (hu_of hr) (pv 0) pe_str (fun _ _ => rfl)) pe_int) (pv 3)) pe_int) pa_nil)) pe_int) rfl)
    (pss_one (ps_ret (pe_op op_mod (pe_op op_fdiv (pe_op op_mod (pe_callTy c_int1 (by rfl) T.n_int (by decide +kernel) (pa_cons (pe_op op_add (pe_op op_mul (pv 3) (pv 3)) (pe_dget (hu_of hr) (pv 0) pe_str (fun _ _ => rfl))) pa_nil)) pe_int) pe_int) (pv 1))))))) pss_nil)
    (pss_cons (ps_dput (hu_of hr) (pv 0) pe_str (pe_op op_sub (pv 2) (pe_op op_pow pe_int pe_int)) rfl)
    (pss_one (ps_dput (hu_of hr) (pv 0) pe_str pe_int rfl)))))) pss_nil)
    (pss_cons (ps_if (pt_cmpR op_gt (pe_dget (hu_of hr) (pv 0) pe_str (fun _ _ => rfl)) pe_int (nomark _)) (pss_cons (ps_dput (hu_of hr) (pv 0) pe_str (pe_op op_sub (pe_dget (hu_of hr) (pv 0) pe_str (fun _ _ => rfl)) pe_int) rfl)
    (pss_cons (ps_set (i := 4) sc_l_take.nd rfl (Or.inl rfl) (pe_op op_mod (pe_callTy c_int1 (by rfl) T.n_int (by decide +kernel) (pa_cons (pe_dget (hu_of hr) (pv 0) pe_str (fun _ _ => rfl)) pa_nil)) (pv 1)))
    (pss_cons (ps_dput (hu_of hr) (pv 0) pe_str (pe_op op_fdivW (pe_dget (hu_of hr) (pv 0) pe_str (fun _ _ => rfl)) (pv 1)) rfl)
    (pss_one (ps_ret (pv 4)))))) pss_nil)
    (pss_cons (ps_dput (hu_of hr) (pv 0) pe_str (pe_op op_mod (pe_callTy c_int1 (by rfl) T.n_int (by decide +kernel) (pa_cons (pe_op op_add (pe_op op_add (pe_op op_mul (pe_dget (hu_of hr) (pv 0) pe_str (fun _ _ => rfl)) pe_int) (pe_op op_mul (pe_dget (hu_of hr) (pv 0) pe_str (fun _ _ => rfl)) pe_int)) pe_int) pa_nil)) pe_int) rfl)
    (pss_one (ps_ret (pe_op op_mod (pe_op op_fdiv (pe_op op_mod (pe_callTy c_int1 (by rfl) T.n_int (by decide +kernel) (pa_cons (pe_op op_add (pe_op op_mul (pe_dget (hu_of hr) (pv 0) pe_str (fun _ _ => rfl)) (pe_dget (hu_of hr) (pv 0) pe_str (fun _ _ => rfl))) (pe_dget (hu_of hr) (pv 0) pe_str (fun _ _ => rfl))) pa_nil)) pe_int) pe_int) (pv 1)))))))), ?_⟩
  rw [show L2.start ["_law_pen_here", "_law_bound", "_law_cell", "_law_mixed", "_law_digit"] [V.ref p, V.int b] = [some (V.ref p), some (V.int b), none, none, none] from rfl]
  have fin : ∀ (x a r g m t : Int), 0 ≤ a → 0 ≤ m → m < 2147483648 → Q (.int (x % b)) (upd H p (.dK (pk c a r g m t))) := fun x a r g m t h1 h2 h3 => k _ _ (Int.emod_nonneg _ (by omega)) (Int.emod_lt_of_pos _ hb) (pen_put hc hcp h1 h2 h3)
  have h1 : ∀ x : Int, 0 ≤ x % 2147483629 ∧ x % 2147483629 < 2147483629 := fun x => by omega
  have h2 : ∀ x : Int, 0 ≤ x % 2147483647 ∧ x % 2147483647 < 2147483647 := fun x => by omega
  walk_at "w_go"
  walk_at "w_br"
  · walk_at "w_go"
    walk_at "w_br"
    · walk_at "w_go"
      obtain ⟨z, _, hz⟩ := at_int ha (by assumption)
      refine r_ixL (SqL.of (by walk_at "w_hp")) hz ?_
      walk_at "w_go"
      walk_at "w_br"
      · walk_at "w_go"
        exact fin _ _ _ _ _ _ (by omega) (by omega) (by omega)
      · walk_at "w_go"
        walk_at "w_br"
        · walk_at "w_go"
          exact fin _ _ _ _ _ _ (by omega) (by omega) (by omega)
        · omega
    · walk_at "w_go"
      walk_at "w_br"
      · omega
      · walk_at "w_go"
        exact fin _ _ _ _ _ _ (by omega) (by omega) (by omega)
  · walk_at "w_go"
    walk_at "w_br"
    · walk_at "w_go"
      exact fin _ _ _ _ _ _ (by omega) (by omega) (by omega)
    · walk_at "w_go"
      exact fin _ _ _ _ _ _ (by omega) (by omega) (by omega)
theorem ok_l_bit (T : Txt P K mg ad) : FnOk P w K mg base (L2.CX P w) 3 ad.l_bit ad.fd_l_bit ["_law_pen_here", "_law_bound"] spBit := by
  refine T.F_l_bit.okX sc_l_bit (fun vs H Q E h => ?_) (fun cdv A outer s H vs Q E hr h => ?_)
  · obtain ⟨p, c, b, rfl, _⟩ := h
    rfl
  obtain ⟨p, c, b, rfl, hp, hb, hb2, k⟩ := h
  refine ⟨_, (pss_one (ps_ret (pe_cmpR op_eq (pe_call (ok_l_take T) hr rfl T.g_l_take T.F_l_take.kp T.b_l_take .nil passL (pa_cons (pv 0) (pa_cons (pv 1) pa_nil))) pe_int (nomark _)))), ?_⟩
  rw [show L2.start ["_law_pen_here", "_law_bound"] [V.ref p, V.int b] = [some (V.ref p), some (V.int b)] from rfl]
  walk_at "w_go"
  refine r_take hp hb hb2 (fun r H' h0 h1 hs => ?_)
  walk_at "w_go"
  exact k _ _ hs
theorem ok_l_pen (T : Txt P K mg ad) : FnOk P w K mg base (L2.CX P w) 2 ad.l_pen ad.fd_l_pen ["_law_script"] (spPen K) := by
  refine T.F_l_pen.okX sc_l_pen (fun vs H Q E h => ?_) (fun cdv A outer s H vs Q E hr h => ?_)
  · obtain ⟨a, ns, rfl, _⟩ := h
    rfl
  obtain ⟨a, ns, rfl, hS, k⟩ := h
  refine ⟨_, (pss_cons (ps_set (i := 1) sc_l_pen.nd rfl (Or.inl rfl) pe_int)
    (pss_cons (ps_for (passes_of rfl) rfl (pi_list (pv 0)) (pg_name (i := 2) sc_l_pen.nd rfl (Or.inl rfl)) (pss_one (ps_set (i := 1) sc_l_pen.nd rfl (Or.inl rfl) (pe_op op_mod (pe_callTy c_int1 (by rfl) T.n_int (by decide +kernel) (pa_cons (pe_op op_add (pe_op op_mul (pv 1) pe_int) (pv 2)) pa_nil)) pe_int))))
    (pss_one (ps_ret (pe_disp (pps_cons pe_str (pe_callTy c_list (by rfl) T.n_list (by decide +kernel) (pa_cons (pv 0) pa_nil)) (pps_cons pe_str pe_int (pps_cons pe_str pe_int (pps_cons pe_str pe_int (pps_cons pe_str (pv 1) (pps_cons pe_str pe_int pps_nil)))))) (by rfl) (by rfl) (fun z => by cases z) (by decide)))))), ?_⟩
  rw [show L2.start ["_law_script", "_law_total", "_law_cell"] [V.ref a] = [some (V.ref a), none, none] from rfl]
  walk_at "w_go"
  refine r_ilK hS (for_list (K := K) (a := a) (xs := ns.map V.int) (fun i σ H' => H' = H ∧ ∃ (t : Int) (v : Option V), σ = [some (.ref a), some (.int t), v] ∧ 0 ≤ t ∧ t < 2147483629) ⟨rfl, 17, none, rfl, by decide, by decide⟩ ?_ ?_ ?_)
  · rintro i σ H' _ ⟨rfl, _⟩
    exact hS
  · rintro i x σ H' hi ⟨rfl, t, v, rfl, h0, h1⟩
    obtain ⟨z, rfl⟩ : ∃ z, x = V.int z := by
      rw [List.getElem?_map] at hi
      cases e : ns[i]? with
      | none => rw [e] at hi; cases hi
      | some u => rw [e] at hi; exact ⟨u, (Option.some.inj hi).symm⟩
    walk_at "w_go"
    exact ⟨rfl, _, _, rfl, by omega, by omega⟩
  · rintro σ H' ⟨rfl, t, v, rfl, h0, h1⟩
    walk_at "w_go"
    rename_i q H1 nq sq eq
    refine r_listL (Same.seq sq hS) (fun c nc => ?_)
    walk_at "w_go"
    refine r_dispE [(.inr "cells", .ref c), (.inr "at", .int 0), (.inr "rest", .int 0), (.inr "digits", .int 0), (.inr "mix", .int t), (.inr "turn", .int 0)] (pk c 0 0 0 t 0) (by walk_at "w_hp") rfl (by simp) rfl ?_
    have ncq : c ≠ q := (ne_of_none eq nc).symm
    refine k q c _ ⟨ns, 0, 0, 0, t, 0, upd_same, by rw [upd_ne ncq]; exact upd_same, by decide, h0, by omega⟩ ?_ nq
    exact same_put (Same.trans sq (same_new nc)) nq

end
end Wm
namespace Wm
open PySem L2

section
variable {P : Program} {w : World} {K : PySem.W.Frag} {mg : Str → Option Value} {base : Heap} {ad : Ad}
theorem sum_leN {L : Nat} : ∀ {ss : List Str}, (∀ s, s ∈ ss → s.length ≤ L) → (ss.map (·.length)).sum ≤ ss.length * L
  | [], _ => by simp
  | s :: ss, h => by
    have ih := sum_leN (ss := ss) (fun x hx => h x (by simp [hx]))
    have h1 := h s (by simp)
    simp only [List.map_cons, List.sum_cons, List.length_cons, Nat.succ_mul]
    omega
theorem ok_l_letters (T : Txt P K mg ad) : FnOk P w K mg base (L2.CX P w) 3 ad.l_letters ad.fd_l_letters ["_law_pen_here", "_law_place", "_law_index", "_law_offset", "_law_plain"] spLetters := by
  refine T.F_l_letters.okX sc_l_letters (fun vs H Q E h => ?_) (fun cdv A outer s H vs Q E hr h => ?_)
  · obtain ⟨p, c, pl, k, o, plain, rfl, _⟩ := h
    rfl
  obtain ⟨p, c, pl, k, o, plain, rfl, hp, h1, h2, h3, kQ⟩ := h
  refine ⟨_, (pss_cons (ps_set (i := 5) sc_l_letters.nd rfl (Or.inl rfl) pe_str)
    (pss_cons (ps_set (i := 6) sc_l_letters.nd rfl (Or.inl rfl) (pe_op op_add (pv 1) pe_int))
    (pss_cons (ps_if (pt_not (pt_val (pv 4))) (pss_one (ps_set (i := 6) sc_l_letters.nd rfl (Or.inl rfl) (pe_op op_add (pv 6) (pe_call (ok_l_take T) hr rfl T.g_l_take T.F_l_take.kp T.b_l_take .nil passL (pa_cons (pv 0) (pa_cons (pe_op op_sub pe_int (pv 1)) pa_nil)))))) pss_nil)
    (pss_cons (ps_set (i := 7) sc_l_letters.nd rfl (Or.inl rfl) (pe_lst pa_nil))
    (pss_cons (ps_for (passes_of rfl) rfl (pi_range1 rfl T.n_range (pa_cons (pv 6) pa_nil)) (pg_name (i := 8) sc_l_letters.nd rfl (Or.inl rfl)) (pss_one (ps_if (pt_cmpR op_eq (pv 8) (pv 1) (nomark _)) (pss_one (ps_expr (pe_bm PySem.F.plainAttrs_list PySem.F.slot_list_append PySem.F.type_list_append mt_append (pv 7) (pa_cons (pe_ix ix_str (pv 5) (pe_op op_mod (pe_op op_add (pv 3) (pv 2)) pe_int) (fun _ _ => rfl)) pa_nil)))) (pss_one (ps_if (pt_val (pv 4)) (pss_one (ps_expr (pe_bm PySem.F.plainAttrs_list PySem.F.slot_list_append PySem.F.type_list_append mt_append (pv 7) (pa_cons pe_str pa_nil)))) (pss_one (ps_expr (pe_bm PySem.F.plainAttrs_list PySem.F.slot_list_append PySem.F.type_list_append mt_append (pv 7) (pa_cons (pe_ix ix_str (pv 5) (pe_call (ok_l_take T) hr rfl T.g_l_take T.F_l_take.kp T.b_l_take .nil passL (pa_cons (pv 0) (pa_cons pe_int pa_nil))) (fun _ _ => rfl)) pa_nil)))))))))
    (pss_one (ps_ret (pe_bm PySem.F.plainAttrs_str PySem.F.slot_str_join PySem.F.type_str_join mtJoin pe_str (pa_cons (pv 7) pa_nil))))))))), ?_⟩
  rw [show L2.start ["_law_pen_here", "_law_place", "_law_index", "_law_offset", "_law_plain", "_law_letters_here", "_law_size_here", "_law_chosen", "_law_k"] [V.ref p, V.int pl, V.int k, V.int o, V.bl plain] = [some (V.ref p), some (V.int pl), some (V.int k), some (V.int o), some (V.bl plain), none, none, none, none] from rfl]
  walk_at "w_go"
  refine r_ifJ (fun σ H' => ∃ sz : Nat, σ = [some (.ref p), some (.int pl), some (.int k), some (.int o), some (.bl plain), some (.str LOWS), some (.int sz), none, none] ∧ PenStep p c H H' ∧ pl < sz ∧ sz ≤ 8) ?_ ?_
  · rintro σ H' ⟨sz, rfl, hs, l1, l2⟩
    walk_at "w_go"
    rename_i q H1 n1 s1 e1
    have nHq : H q = none := hs.free n1
    refine r_rngK (by omega) (by omega) ?_
    rw [Int.toNat_natCast]
    refine for_range (lo := 0) (n := sz) (fun j σ H2 => ∃ (cs : List Nat) (v : Option V), σ = [some (.ref p), some (.int pl), some (.int k), some (.int o), some (.bl plain), some (.str LOWS), some (.int sz), some (.ref q), v] ∧ PenStep p c H H2 ∧ H2 q = some (.lst ((cs.map one).map V.str)) ∧ cs.length = j ∧ cs.all isLow = true ∧ (pl < j → cs[pl]? = some (97 + (o + k) % 26))) ⟨[], none, rfl, hs.same s1, e1, rfl, rfl, fun z => by omega⟩ ?_ ?_
    · rintro j σ H2 hj ⟨cs, v, rfl, hs2, e2, hl, ha, ht⟩
      clear e1 s1 n1 hs
      have hp2 := hs2.pen
      have fin : ∀ (d : Nat) (H3 : Hp), PenStep p c H H3 → H3 q = some (.lst ((cs.map one).map V.str)) → isLow d = true → (j = pl → d = 97 + (o + k) % 26) → ∃ (cs' : List Nat) (v : Option V), [some (.ref p), some (.int pl), some (.int k), some (.int o), some (.bl plain), some (.str LOWS), some (.int sz), some (.ref q), some (V.int (0 + (j : Int)))] = [some (.ref p), some (.int pl), some (.int k), some (.int o), some (.bl plain), some (.str LOWS), some (.int sz), some (.ref q), v] ∧ PenStep p c H (upd H3 q (.lst (((cs.map one).map V.str) ++ [V.str (one d)]))) ∧ upd H3 q (.lst (((cs.map one).map V.str) ++ [V.str (one d)])) q = some (.lst ((cs'.map one).map V.str)) ∧ cs'.length = j + 1 ∧ cs'.all isLow = true ∧ (pl < j + 1 → cs'[pl]? = some (97 + (o + k) % 26)) := fun d H3 t3 e3 hd hdj => by
        refine ⟨cs ++ [d], _, rfl, t3.put hp nHq, ?_, ?_, ?_, ?_⟩
        · rw [upd_same, List.map_append, List.map_append]
          rfl
        · simp [hl]
        · rw [List.all_append, ha]
          simp [hd]
        · intro hpl
          by_cases hlt : pl < j
          · rw [List.getElem?_append_left (by omega)]
            exact ht hlt
          · have e : pl = cs.length := by omega
            rw [e, List.getElem?_append_right (Nat.le_refl _), Nat.sub_self, ← hdj (by omega)]
            rfl
      walk_at "w_go"
      walk_at "w_br"
      · rename_i hjp
        walk_at "w_go"
        refine r_ixS (c := 97 + (o + k) % 26) (by rw [PySem.sizeLine_eq]; decide) (by rw [show ((o : Int) + (k : Int)) % 26 = (((o + k) % 26 : Nat) : Int) from by omega]; exact atI_nat (low_at (Nat.mod_lt _ (by decide)))) ?_
        walk_at "w_go"
        exact fin _ _ hs2 e2 (by unfold isLow; simp; omega) (fun _ => rfl)
      · rename_i hjp
        walk_at "w_go"
        cases plain with
        | true =>
          walk_at "w_go"
          exact fin 97 _ hs2 e2 rfl (fun z => absurd (show (0 : Int) + (j : Int) = (pl : Int) from by omega) hjp)
        | false =>
          walk_at "w_go"
          refine r_take hp2 (by decide) (by decide) (fun r H3 h0 h1 s3 => ?_)
          walk_at "w_go"
          have hq3 : H3 q = some (.lst ((cs.map one).map V.str)) := by walk_at "w_hp"
          obtain ⟨n, rfl⟩ := Int.eq_ofNat_of_zero_le h0
          refine r_ixS (c := 97 + n) (by rw [PySem.sizeLine_eq]; decide) (atI_nat (low_at (by omega))) ?_
          walk_at "w_go"
          exact fin _ _ (hs2.trans s3) hq3 (by unfold isLow; simp; omega) (fun z => absurd (show (0 : Int) + (j : Int) = (pl : Int) from by omega) hjp)
    · rintro σ H2 ⟨cs, v, rfl, hs2, e2, hl, ha, ht⟩
      walk_at "w_go"
      refine r_join _ e2 rfl ?_ ?_
      · have hsum : ((cs.map one).map (·.length)).sum ≤ (cs.map one).length * 1 := sum_leN fun x hx => by
          obtain ⟨d, _, rfl⟩ := List.mem_map.mp hx
          exact Nat.le_refl 1
        rw [show (Str.ofString "").length = 0 from rfl]
        rw [List.length_map] at hsum ⊢
        omega
      · refine kQ _ _ hs2 ⟨?_, ?_, ?_⟩
        · rw [join_ones]
          exact ha
        · have e := congrArg List.length (join_ones cs)
          rw [Array.length_toList] at e
          show (Txt.join "" (cs.map one)).cps.size ≤ 8
          omega
        · rw [join_ones]
          exact ht l1
  · intro N hN
    cases plain with
    | true =>
      walk_at "w_go"
      exact hN _ _ ⟨pl + 1, rfl, PenStep.refl hp, by omega, by omega⟩
    | false =>
      walk_at "w_go"
      refine r_take hp (by omega) (by omega) (fun r H1 g0 g1 s1 => ?_)
      walk_at "w_go"
      obtain ⟨n, rfl⟩ := Int.eq_ofNat_of_zero_le g0
      exact hN _ _ ⟨pl + 1 + n, rfl, s1, by omega, by omega⟩
end
end Wm
namespace Wm
open PySem L2

section
variable {P : Program} {w : World} {K : PySem.W.Frag} {mg : Str → Option Value} {base : Heap} {ad : Ad}
theorem ok_l_names (T : Txt P K mg ad) : FnOk P w K mg base (L2.CX P w) 4 ad.l_names ad.fd_l_names ["_law_pen_here", "_law_count"] spNames := by
  refine T.F_l_names.okX sc_l_names (fun vs H Q E h => ?_) (fun cdv A outer s H vs Q E hr h => ?_)
  · obtain ⟨p, c, n, rfl, _⟩ := h
    rfl
  obtain ⟨p, c, n, rfl, hp, hn, kQ⟩ := h
  refine ⟨_, (pss_cons (ps_set (i := 2) sc_l_names.nd rfl (Or.inr rfl) (pe_call (ok_l_bit T) hr rfl T.g_l_bit T.F_l_bit.kp T.b_l_bit .nil passL (pa_cons (pv 0) (pa_cons pe_int pa_nil))))
    (pss_cons (ps_set (i := 3) sc_l_names.nd rfl (Or.inr rfl) (pe_call (ok_l_take T) (hr.mono (by decide)) rfl T.g_l_take T.F_l_take.kp T.b_l_take .nil passL (pa_cons (pv 0) (pa_cons pe_int pa_nil))))
    (pss_cons (ps_if (pt_val (pe_call (ok_l_bit T) hr rfl T.g_l_bit T.F_l_bit.kp T.b_l_bit .nil passL (pa_cons (pv 0) (pa_cons pe_int pa_nil)))) (pss_one (ps_set (i := 3) sc_l_names.nd rfl (Or.inr rfl) pe_int)) pss_nil)
    (pss_cons (ps_set (i := 4) sc_l_names.nd rfl (Or.inr rfl) (pe_call (ok_l_take T) (hr.mono (by decide)) rfl T.g_l_take T.F_l_take.kp T.b_l_take .nil passL (pa_cons (pv 0) (pa_cons pe_int pa_nil))))
    (pss_one (ps_ret (pe_lc (own := [("_law_k", 5)]) (g := gName 5) (tt := tYes) rfl sc_l_names.nd (pi_range1 rfl T.n_range (pa_cons (pv 1) pa_nil)) (blkOk_by (own := [("_law_k", 5)]) (N := ["_law_pen_here", "_law_count", "_law_plain", "_law_place", "_law_offset", "_law_k"]) (sc := defScope s_l_names) (by decide +kernel)) (fun _ _ _ _ _ => pg_name (i := 5) sc_l_names.nd rfl (Or.inl rfl)) (fun _ _ _ _ _ => pts_nil) (fun _ _ _ _ _ => (pe_call (ok_l_letters T) hr rfl T.g_l_letters T.F_l_letters.kp T.b_l_letters .nil passL (pa_cons (pv 0) (pa_cons (pv 3) (pa_cons (pv 5) (pa_cons (pv 4) (pa_cons (pv 2) pa_nil)))))))))))))), ?_⟩
  rw [show L2.start ["_law_pen_here", "_law_count", "_law_plain", "_law_place", "_law_offset", "_law_k"] [V.ref p, V.int n] = [some (V.ref p), some (V.int n), none, none, none, none] from rfl]
  walk_at "w_go"
  refine r_bit hp (by decide) (by decide) (fun plain H1 s1 => ?_)
  walk_at "w_go"
  refine r_take s1.pen (by decide) (by decide) (fun r H2 a0 a1 s2 => ?_)
  obtain ⟨pl0, rfl⟩ := Int.eq_ofNat_of_zero_le a0
  walk_at "w_go"
  refine r_bit s2.pen (by decide) (by decide) (fun z H3 s3 => ?_)
  have hs3 : PenStep p c H H3 := (s1.trans s2).trans s3
  clear s1 s2 s3
  walk_at "w_go"
  refine r_ifJ (fun σ H' => ∃ pl : Nat, σ = [some (.ref p), some (.int n), some (.bl plain), some (.int pl), none, none] ∧ PenStep p c H H' ∧ pl < 8) ?_ ?_
  · rintro σ H' ⟨pl, rfl, hs, hl⟩
    clear hs3
    walk_at "w_go"
    refine r_take hs.pen (by decide) (by decide) (fun o H4 b0 b1 s4 => ?_)
    obtain ⟨o, rfl⟩ := Int.eq_ofNat_of_zero_le b0
    have hs4 := hs.trans s4
    clear hs s4
    walk_at "w_go"
    refine r_rngK (by omega) (by omega) ?_
    rw [Int.toNat_natCast]
    intro D hD
    have nD : H D = none := hs4.free hD
    refine lc_range (lo := 0) (n := n) (fun j H' => PenStep p c H H' ∧ ∃ l : List Str, H' D = some (.lst (l.map V.str)) ∧ l.length = j ∧ NamesAt pl o l) ⟨hs4.put hp nD, [], upd_same, rfl, fun k x z => by simp at z⟩ ?_ ?_
    · rintro j H5 hj ⟨hs5, l, e5, hlj, hn5⟩
      clear hs4
      refine ⟨wipe_set1, ?_⟩
      walk_at "w_go"
      refine ⟨p, c, pl, j, o, plain, by simp, hs5.pen, hl, by omega, by omega, fun x H6 s6 nm => ?_⟩
      have e6 : H6 D = some (.lst (l.map V.str)) := by walk_at "w_hp"
      refine ⟨_, e6, by rw [PySem.sizeLine_eq, List.length_map]; omega, (hs5.trans s6).put hp nD, l ++ [x], ?_, by simp [hlj], fun k y hk => ?_⟩
      · rw [upd_same, List.map_append]
        rfl
      · by_cases hlt : k < l.length
        · rw [List.getElem?_append_left hlt] at hk
          exact hn5 k y hk
        · rw [List.getElem?_append_right (by omega)] at hk
          have hk2 : k - l.length < 1 := (List.getElem?_eq_some_iff.mp hk).1
          have e : k = j := by omega
          subst e
          rw [hlj, Nat.sub_self] at hk
          cases hk
          exact nm
    · rintro H5 ⟨hs5, l, e5, hlj, hn5⟩
      exact kQ pl o l D H5 hl (by omega) hs5 nD e5 hlj hn5
  · intro N hN
    cases z with
    | true =>
      refine iteT ?_
      walk_at "w_go"
      exact hN _ _ ⟨0, rfl, hs3, by decide⟩
    | false =>
      refine iteF ?_
      walk_at "w_go"
      exact hN _ _ ⟨pl0, rfl, hs3, by omega⟩
theorem ok_l_kind_names (T : Txt P K mg ad) : FnOk P w K mg base (L2.CX P w) 5 ad.l_kind_names ad.fd_l_kind_names ["_law_pen_here", "_law_count"] spKinds := by
  refine T.F_l_kind_names.okX sc_l_kind_names (fun vs H Q E h => ?_) (fun cdv A outer s H vs Q E hr h => ?_)
  · obtain ⟨p, c, n, rfl, _⟩ := h
    rfl
  obtain ⟨p, c, n, rfl, hp, hn, kQ⟩ := h
  refine ⟨_, (pss_one (ps_ret (pe_lc (own := [("_law_name", 2)]) (g := gName 2) (tt := tYes) rfl sc_l_kind_names.nd (pi_list (pe_call (ok_l_names T) hr rfl T.g_l_names T.F_l_names.kp T.b_l_names .nil passL (pa_cons (pv 0) (pa_cons (pv 1) pa_nil)))) (blkOk_by (own := [("_law_name", 2)]) (N := ["_law_pen_here", "_law_count", "_law_name"]) (sc := defScope s_l_kind_names) (by decide +kernel)) (fun _ _ _ _ _ => pg_name (i := 2) sc_l_kind_names.nd rfl (Or.inl rfl)) (fun _ _ _ _ _ => pts_nil) (fun _ _ _ _ _ => (pe_op op_addS (pe_bm0 PySem.F.plainAttrs_str PySem.F.slot_str_upper PySem.F.type_str_upper mtUpper (pe_ix ix_str (pv 2) pe_int (fun _ _ => rfl)) : PE _ _ (tBM0 K _ _ _)) (pe_slice sl_str (pv 2) (po_some pe_int) po_none)))))), ?_⟩
  rw [show L2.start ["_law_pen_here", "_law_count", "_law_name"] [V.ref p, V.int n] = [some (V.ref p), some (V.int n), none] from rfl]
  walk_at "w_go"
  refine ⟨p, c, n, rfl, hp, hn, fun pl o l q H1 hpl ho s1 n1 e1 hl hna => ?_⟩
  refine r_ilK (.of e1) (r_lcL (xs := l.map V.str) (fun _ => true) (liftS capF) (.of e1) (by rw [PySem.sizeLine_eq, List.length_map]; omega) (fun j x hj => ?_) (fun q2 H2 n2 s2 e2 => ?_))
  · obtain ⟨x, rfl, hx⟩ := str_ix hj
    have nm := hna j x hx
    obtain ⟨d, t, e, hd, ht⟩ := name_cons nm
    have h8 := nm.2.1
    refine ⟨fun H' R _ q => q, fun H' R _ s q => ?_⟩
    walk_at "w_go"
    refine r_ixS (c := d) (by rw [PySem.sizeLine_eq]; omega) (by rw [e]; exact atI_nat (j := 0) rfl) ?_
    have hd2 : x.cps.toList.headD 0 = d := by rw [e]; rfl
    have q2 : R (V.str (Txt.upper (one d) ++ cutS x (some 1) none)) H' := by
      have q3 : R (V.str (capF x)) H' := q
      unfold capF at q3
      rwa [hd2] at q3
    clear q
    refine r_tyS (r_upper (a := one d) (show (1 : Nat) ≤ 5592405 from by decide) ?_)
    walk_at "w_go"
    refine r_addS ?_ q2
    rw [upper_one hd, PySem.sizeLine_eq, show (one (d - 32)).length = 1 from rfl]
    have := cutS_length x (some 1) none
    omega
  · rw [lift_map] at e2
    refine kQ (l.map capF) q2 H2 (s1.same s2) (s1.free n2) e2 (by rw [List.length_map, hl]) (caps_nodup hna (by omega)) fun y hy => ?_
    obtain ⟨x, hx, rfl⟩ := List.mem_map.mp hy
    obtain ⟨k, hk⟩ := List.mem_iff_getElem?.mp hx
    exact cap_kind (hna k x hk)
end
end Wm
namespace Wm
open PySem L2

section
variable {P : Program} {w : World} {K : PySem.W.Frag} {mg : Str → Option Value} {base : Heap} {ad : Ad}
theorem ok_l_line (T : Txt P K mg ad) : FnOk P w K mg base (L2.CX P w) 2 ad.l_line ad.fd_l_line ["_law_rows", "_law_name"] spLine := by
  refine T.F_l_line.okX sc_l_line (fun vs H Q E h => ?_) (fun cdv A outer s H vs Q E hr h => ?_)
  · obtain ⟨L, rows, all, n, rfl, _⟩ := h
    rfl
  obtain ⟨L, rows, all, n, rfl, ⟨vs, eL, hrows⟩, ok, hz, hn, kQ⟩ := h
  refine ⟨_, (pss_cons (ps_set (i := 2) sc_l_line.nd rfl (Or.inl rfl) pe_dnewK)
    (pss_cons (ps_for (passes_of rfl) rfl (pi_list (pv 0)) (pg_name (i := 3) sc_l_line.nd rfl (Or.inl rfl)) (pss_cons (ps_set (i := 4) sc_l_line.nd rfl (Or.inr rfl) (pe_lst (pa_cons (pe_ix ix_tup (pv 3) pe_int (fun _ _ => rfl)) pa_nil)))
    (pss_cons (ps_for (passes_of rfl) rfl (pi_tup (pe_ix ix_tup (pv 3) pe_int (fun _ _ => rfl))) (pg_name (i := 5) sc_l_line.nd rfl (Or.inl rfl)) (pss_one (ps_set (i := 4) sc_l_line.nd rfl (Or.inr rfl) (pe_op op_cat (pv 4) (pe_dget (hu_of hr) (pv 2) (pv 5) (fun _ _ => rfl))))))
    (pss_one (ps_dput (hu_of hr) (pv 2) (pe_ix ix_tup (pv 3) pe_int (fun _ _ => rfl)) (pe_lc (own := [("_law_k", 6)]) (g := gName 6) rfl sc_l_line.nd (pi_range1 rfl T.n_range (pa_cons (pe_callB c_len (by rfl) T.n_len PySem.boot_len (pa_cons (pv 4) pa_nil)) pa_nil)) (blkOk_by (own := [("_law_k", 6)]) (N := ["_law_rows", "_law_name", "_law_lines", "_law_row", "_law_line_here", "_law_base", "_law_k"]) (sc := defScope s_l_line) (by decide +kernel)) (fun _ _ _ _ _ => pg_name (i := 6) sc_l_line.nd rfl (Or.inl rfl)) (fun _ _ _ _ _ => (pts_one (pt_cmpR (op_notIn_seq : OpR _ _ (rIn K true)) (pe_ix (ix_list : IxR _ (rIxL K)) (pv 4) (pv 6) (fun _ _ => rfl)) (pe_slice (sl_list : SlR _ (rSlL K)) (pv 4) (po_some (pe_op op_add (pv 6) pe_int)) po_none) (by rfl)))) (fun _ _ _ _ _ => (pe_ix (ix_list : IxR _ (rIxL K)) (pv 4) (pv 6) (fun _ _ => rfl)))) rfl)))))
    (pss_one (ps_ret (pe_dget (hu_of hr) (pv 2) (pv 1) (fun _ _ => rfl)))))), ?_⟩
  rw [show L2.start ["_law_rows", "_law_name", "_law_lines", "_law_row", "_law_line_here", "_law_base", "_law_k"] [V.ref L, V.str n] = [some (V.ref L), some (V.str n), none, none, none, none, none] from rfl]
  have hb := ok.bs
  walk_at "w_go"
  rename_i D H1 n1 s1 e1
  have hlen := hrows.len
  refine r_ilK (.of (s1 _ _ eL)) (for_list (K := K) (a := L) (xs := vs) (fun i σ H' => ∃ (v3 v4 v5 : Option V) (kvs : List (Key × V)), σ = [some (.ref L), some (.str n), some (.ref D), v3, v4, v5, none] ∧ Same H H' ∧ H' D = some (.dK kvs) ∧ kvs.length ≤ i ∧ ∀ m, m ∈ names (rows.take i) → ∃ a, valV kvs (.inr m) = some (.ref a) ∧ H a = none ∧ H' a = some (.lst ((lineF (rows.take i) m).map V.str))) ⟨none, none, none, [], rfl, s1, e1, Nat.le_refl _, fun m hm => by simp [names] at hm⟩ ?_ ?_ ?_)
  · rintro i σ H' _ ⟨v3, v4, v5, kvs, rfl, hs, _⟩
    exact .of (hs _ _ eL)
  · rintro i x σ H' hi ⟨v3, v4, v5, kvs, rfl, hs, hD, hk, hv⟩
    obtain ⟨r, hri, hra⟩ := hrows.right hi
    obtain ⟨ra, bv, ov, rfl, hra, ⟨ba, rfl, hba⟩, _⟩ := hra.tx (tx_same hs)
    have okr := ok i r hri
    have hil : i < rows.length := (List.getElem?_eq_some_iff.mp hri).1
    have hbt := ok.take i |>.bs
    clear s1 e1
    walk_at "w_go"
    rename_i La H2 n2 s2 e2
    refine r_itK (.of (s2 _ _ hba)) (for_tup (K := K) (a := ba) (xs := r.bases.map V.str) (fun j σ H'' => ∃ (La : Addr) (v5 : Option V), σ = [some (.ref L), some (.str n), some (.ref D), some (.ref ra), some (.ref La), v5, none] ∧ Same H' H'' ∧ H'' La = some (.lst ((r.name :: (r.bases.take j).flatMap (lineF (rows.take i))).map V.str))) ⟨La, _, rfl, s2, e2⟩ ?_ ?_ ?_)
    · rintro j σ H'' _ ⟨La, v5, rfl, hs3, _⟩
      exact .of (hs3 _ _ hba)
    · rintro j x σ H'' hj ⟨La, v5, rfl, hs3, e3⟩
      obtain ⟨b, rfl, hbj⟩ := str_ix hj
      have hbn := okr.bsub b (List.mem_of_getElem? hbj)
      obtain ⟨a, va, _, ea⟩ := hv b hbn
      have hl1 : ((r.bases.take j).flatMap (lineF (rows.take i))).length ≤ 3 * 6 := Nat.le_trans (flat_le (k := 6) fun x _ => Nat.le_trans (line_len hbt x) (by rw [List.length_take]; omega)) (Nat.mul_le_mul (Nat.le_trans (by rw [List.length_take]; exact Nat.min_le_right _ _) okr.blen) (Nat.le_refl _))
      have hl2 := line_len hbt b
      rw [List.length_take] at hl2
      clear s2 e2 n2
      walk_at "w_go"
      refine r_dgetK (hs3 _ _ hD) va ?_
      refine r_cat e3 (hs3 _ _ ea) (by rw [PySem.sizeLine_eq]; simp only [List.length_map, List.length_cons]; omega) (fun q H3 n3 s3 e4 => ?_)
      walk_at "w_go"
      refine ⟨q, _, rfl, hs3.trans s3, ?_⟩
      rw [e4, ← List.map_append, take_flat hbj]
      rfl
    · rintro σ H'' ⟨La, v5, rfl, hs3, e3⟩
      rw [List.length_map, List.take_length] at e3
      have hl1 : (r.bases.flatMap (lineF (rows.take i))).length ≤ 3 * 6 := Nat.le_trans (flat_le (k := 6) fun x _ => Nat.le_trans (line_len hbt x) (by rw [List.length_take]; omega)) (Nat.mul_le_mul okr.blen (Nat.le_refl _))
      have hlz : (r.name :: r.bases.flatMap (lineF (rows.take i))).length ≤ 19 := by
        rw [List.length_cons]
        omega
      have eline := line_new (rows := rows.take i) (r := r) okr.fresh
      generalize hline : (r.name :: r.bases.flatMap (lineF (rows.take i))) = line at e3 hlz eline
      clear s2 e2 n2 hl1
      walk_at "w_go"
      refine r_rngK (by rw [List.length_map]; omega) (by rw [List.length_map]; omega) ?_
      rw [Int.toNat_natCast, List.length_map]
      refine r_lcW walk_range (sufs line) (sufs_len line) (fun a => !decide (a.1 ∈ a.2)) (fun a y _ => y = V.str a.1) (fun _ _ _ _ h _ => h) (fun _ _ => trivial) (by rw [PySem.sizeLine_eq]; omega) (fun D2 j a x Hi Hj acc Kt Kf hD2 ha sI eD2 y kt kf => ?_) (fun q ys H3 n3 s3 e4 hr4 => ?_)
      · obtain ⟨rfl, rfl⟩ := y
        obtain ⟨a1, a2⟩ := sufs_at ha
        have e3' := sI _ _ e3
        have hx : (line.map V.str)[j]? = some (V.str a.1) := by
          rw [List.getElem?_map, a1]
          rfl
        refine ⟨wipe_set1, ?_⟩
        walk_at "w_go"
        refine r_ixLK e3' (at_n hx) ?_
        walk_at "w_go"
        rename_i q5 H5 n5 s5 e5
        rw [show (0 : Int) + (j : Int) + 1 = ((j + 1 : Nat) : Int) from by omega, cut_from, ← List.map_drop, a2] at e5
        refine r_inSN (.inl (.of e5)) ?_
        walk_at "w_go"
        by_cases hm : a.1 ∈ a.2
        · refine iteF' (by simp [hm]) ?_
          exact kf (by simp [hm]) H5 s5
        · refine iteT' (by simp [hm]) ?_
          walk_at "w_go"
          refine r_ixLK (s5 _ _ e3') (at_n hx) ?_
          exact kt (by simp [hm]) _ _ s5 rfl
      · have hys := all2_map hr4
        rw [sufs_last] at hys
        subst hys
        have hD3 := s3 _ _ (hs3 _ _ hD)
        walk_at "w_go"
        refine r_dputK hD3 rfl (by rw [PySem.sizeLine_eq]; omega) ?_
        have nD : D ≠ q := (ne_of_none (hs3 _ _ hD) n3)
        have hsq : Same H H3 := (hs.trans hs3).trans s3
        refine ⟨_, _, _, _, rfl, same_put hsq n1, upd_same, Nat.le_trans (length_putK _ _ _) (by omega), fun m hm => ?_⟩
        rw [take_names hri] at hm
        rw [take_more hri]
        by_cases hmr : m = r.name
        · subst hmr
          refine ⟨q, by rw [valV_put, if_pos rfl], (hs.trans hs3).free n3, ?_⟩
          rw [upd_ne nD.symm, e4, eline]
        · have hm2 : m ∈ names (rows.take i) := by
            rcases List.mem_append.mp hm with z | z
            · exact z
            · simp only [List.mem_cons, List.not_mem_nil, or_false] at z
              exact absurd z hmr
          obtain ⟨a, va, na, ea⟩ := hv m hm2
          refine ⟨a, by rw [valV_put, if_neg (fun z => hmr (Sum.inr.inj z)), va], na, ?_⟩
          have naD : a ≠ D := fun z => by
            rw [z, hD] at ea
            cases ea
          rw [upd_ne naD, s3 _ _ (hs3 _ _ ea), line_keep hm2]
  · rintro σ H' ⟨v3, v4, v5, kvs, rfl, hs, hD, hk, hv⟩
    rw [← hlen, List.take_length] at hv
    obtain ⟨a, va, na, ea⟩ := hv n hn
    walk_at "w_go"
    refine r_dgetK hD va ?_
    exact kQ a H' hs na ea
end
end Wm
namespace Wm
open PySem L2

section
variable {P : Program} {w : World} {K : PySem.W.Frag} {mg : Str → Option Value} {base : Heap} {ad : Ad}
theorem ok_l_fields (T : Txt P K mg ad) : FnOk P w K mg base (L2.CX P w) 3 ad.l_fields ad.fd_l_fields ["_law_rows", "_law_name"] spFields := by
  refine T.F_l_fields.okX sc_l_fields (fun vs H Q E h => ?_) (fun cdv A outer s H vs Q E hr h => ?_)
  · obtain ⟨L, rows, all, n, rfl, _⟩ := h
    rfl
  obtain ⟨L, rows, all, n, rfl, ⟨vs, eL, hrows⟩, ok, hz, hn, kQ⟩ := h
  refine ⟨_, (pss_cons (ps_set (i := 2) sc_l_fields.nd rfl (Or.inl rfl) pe_dnewK)
    (pss_cons (ps_for (passes_of rfl) rfl (pi_list (pv 0)) (pg_name (i := 3) sc_l_fields.nd rfl (Or.inl rfl)) (pss_one (ps_dput (hu_of hr) (pv 2) (pe_ix ix_tup (pv 3) pe_int (fun _ _ => rfl)) (pe_ix ix_tup (pv 3) pe_int (fun _ _ => rfl)) rfl)))
    (pss_cons (ps_set (i := 4) sc_l_fields.nd rfl (Or.inl rfl) (pe_call (ok_l_line T) hr rfl T.g_l_line T.F_l_line.kp T.b_l_line .nil passL (pa_cons (pv 0) (pa_cons (pv 1) pa_nil))))
    (pss_cons (ps_set (i := 5) sc_l_fields.nd rfl (Or.inl rfl) (pe_lst pa_nil))
    (pss_cons (ps_for (passes_of rfl) rfl (pi_range1 rfl T.n_range (pa_cons (pe_callB c_len (by rfl) T.n_len PySem.boot_len (pa_cons (pv 4) pa_nil)) pa_nil)) (pg_name (i := 6) sc_l_fields.nd rfl (Or.inl rfl)) (pss_cons (ps_set (i := 7) sc_l_fields.nd rfl (Or.inl rfl) (pe_ix ix_list (pv 4) (pe_op op_sub (pe_op op_sub (pe_callB c_len (by rfl) T.n_len PySem.boot_len (pa_cons (pv 4) pa_nil)) pe_int) (pv 6)) (fun _ _ => rfl)))
    (pss_one (ps_for (passes_of rfl) rfl (pi_tup (pe_dget (hu_of hr) (pv 2) (pv 7) (fun _ _ => rfl))) (pg_name (i := 8) sc_l_fields.nd rfl (Or.inl rfl)) (pss_one (ps_expr (pe_bm PySem.F.plainAttrs_list PySem.F.slot_list_append PySem.F.type_list_append mt_append (pv 5) (pa_cons (pe_tup (pa_cons (pe_ix ix_tup (pv 8) pe_int (fun _ _ => rfl)) (pa_cons (pe_ix ix_tup (pv 8) pe_int (fun _ _ => rfl)) (pa_cons (pe_ix ix_tup (pv 8) pe_int (fun _ _ => rfl)) (pa_cons (pv 7) pa_nil))))) pa_nil))))))))
    (pss_one (ps_ret (pv 5)))))))), ?_⟩
  rw [show L2.start ["_law_rows", "_law_name", "_law_owned", "_law_row", "_law_line_here", "_law_found", "_law_k", "_law_owner", "_law_field"] [V.ref L, V.str n] = [some (V.ref L), some (V.str n), none, none, none, none, none, none, none] from rfl]
  have hb := ok.bs
  walk_at "w_go"
  rename_i D H1 n1 s1 e1
  have hlen := hrows.len
  refine r_ilK (.of (s1 _ _ eL)) (for_list (K := K) (a := L) (xs := vs) (fun i σ H' => ∃ (v3 : Option V) (kvs : List (Key × V)), σ = [some (.ref L), some (.str n), some (.ref D), v3, none, none, none, none, none] ∧ Same H H' ∧ H' D = some (.dK kvs) ∧ kvs.length ≤ i ∧ ∀ m, m ∈ names (rows.take i) → ∃ v, valV kvs (.inr m) = some v ∧ FldsAt H (ownOf (rows.take i) m) v) ⟨none, [], rfl, s1, e1, Nat.le_refl _, fun m hm => by simp [names] at hm⟩ ?_ ?_ ?_)
  · rintro i σ H' _ ⟨v3, kvs, rfl, hs, _⟩
    exact .of (hs _ _ eL)
  · rintro i x σ H' hi ⟨v3, kvs, rfl, hs, hD, hk, hv⟩
    obtain ⟨r, hri, hra⟩ := hrows.right hi
    obtain ⟨ra, bv, ov, rfl, hra, _, ho⟩ := hra
    have okr := ok i r hri
    have hil : i < rows.length := (List.getElem?_eq_some_iff.mp hri).1
    have hra' := hs _ _ hra
    clear s1 e1
    walk_at "w_go"
    refine r_dputK hD rfl (by rw [PySem.sizeLine_eq]; omega) ?_
    refine ⟨_, _, rfl, same_put hs n1, upd_same, Nat.le_trans (length_putK _ _ _) (by omega), fun m hm => ?_⟩
    rw [take_names hri] at hm
    rw [take_more hri]
    by_cases hmr : m = r.name
    · subst hmr
      refine ⟨ov, by rw [valV_put, if_pos rfl], ?_⟩
      rw [own_new okr.fresh]
      exact ho
    · have hm2 : m ∈ names (rows.take i) := by
        rcases List.mem_append.mp hm with z | z
        · exact z
        · simp only [List.mem_cons, List.not_mem_nil, or_false] at z
          exact absurd z hmr
      obtain ⟨v, va, hf⟩ := hv m hm2
      refine ⟨v, by rw [valV_put, if_neg (fun z => hmr (Sum.inr.inj z)), va], ?_⟩
      rw [own_keeps hm2]
      exact hf
  · rintro σ H' ⟨v3, kvs, rfl, hs, hD, hk, hv⟩
    rw [← hlen, List.take_length] at hv
    clear s1 e1
    walk_at "w_go"
    refine ⟨L, rows, all, n, rfl, ⟨vs, hs _ _ eL, all2_rows hrows (tx_same hs)⟩, ok, hz, hn, fun La H2 s2 n2 e2 => ?_⟩
    have hll := line_len hb n
    have hsub : ∀ o, o ∈ lineF rows n → o ∈ names rows := fun o ho => line_sub hb ho
    generalize hline : lineF rows n = line at e2 hll hsub
    have hs2 := hs.trans s2
    have hD2 := s2 _ _ hD
    have na : H La = none := hs.free n2
    clear hs hD s2
    walk_at "w_go"
    rename_i F H3 n3 s3 e3
    have hLa := s3 _ _ e2
    have hD3 := s3 _ _ hD2
    have nF : H F = none := hs2.free n3
    have hs3 := hs2.trans s3
    have hLF : La ≠ F := ne_of_none e2 n3
    clear e2 hD2 hs2 s3 n3 n2
    refine r_rngK (by rw [List.length_map]; omega) (by rw [List.length_map]; omega) ?_
    rw [Int.toNat_natCast, List.length_map]
    let f4 : Str → List Fld4 := fun o => (ownOf rows o).map fun f => (f.1, f.2.1, f.2.2, o)
    have own4 : ∀ o, o ∈ line → (ownOf rows o).length ≤ 4 := fun o ho => own_len ok o
    refine for_range (lo := 0) (n := line.length) (fun j σ H' => ∃ (v6 v7 v8 : Option V) (ys : List V), σ = [some (.ref L), some (.str n), some (.ref D), v3, some (.ref La), some (.ref F), v6, v7, v8] ∧ Same H H' ∧ H' D = some (.dK kvs) ∧ H' La = some (.lst (line.map V.str)) ∧ H' F = some (.lst ys) ∧ All2 (F4At H') ((line.reverse.take j).flatMap f4) ys) ⟨_, _, _, _, rfl, hs3, hD3, hLa, e3, .nil⟩ ?_ ?_
    · rintro j σ H4 hj ⟨v6, v7, v8, ys, rfl, hs4, hD4, hLa4, hF4, hr4⟩
      clear hs3 hD3 hLa e3
      have hrj : line.reverse[j]? = some (line[line.length - 1 - j]'(by omega)) := by
        rw [List.getElem?_reverse hj]
        exact List.getElem?_eq_getElem _
      have hoj : (line.map V.str)[line.length - 1 - j]? = some (V.str (line[line.length - 1 - j]'(by omega))) := by
        rw [List.getElem?_map, List.getElem?_eq_getElem (by omega)]
        rfl
      have hom : line[line.length - 1 - j]'(by omega) ∈ line := List.getElem_mem _
      generalize line[line.length - 1 - j]'(by omega) = o at hrj hoj hom
      obtain ⟨v, va, hf⟩ := hv o (hsub o hom)
      obtain ⟨oa, fvs, rfl, hoa, hfv⟩ := hf.tx (tx_same hs4)
      have hol := own4 o hom
      have hacc : ((line.reverse.take j).flatMap f4).length ≤ 6 * 4 := Nat.le_trans (flat_le (k := 4) fun x hx => by
        have := own4 x (List.mem_reverse.mp (List.mem_of_mem_take hx))
        show ((ownOf rows x).map _).length ≤ 4
        rw [List.length_map]
        exact this) (Nat.mul_le_mul (by rw [List.length_take, List.length_reverse]; omega) (Nat.le_refl _))
      walk_at "w_go"
      refine r_ixLK hLa4 (by rw [show ((line.map V.str).length : Int) - 1 - (0 + (j : Int)) = ((line.length - 1 - j : Nat) : Int) from by rw [List.length_map]; omega]; exact atI_nat hoj) ?_
      walk_at "w_go"
      refine r_dgetK hD4 va ?_
      rw [take_flat hrj]
      generalize ((line.reverse.take j).flatMap f4) = acc at hr4 hacc
      refine r_itK (.of hoa) (for_tup (K := K) (a := oa) (xs := fvs) (fun t σ H5 => ∃ (v8 : Option V) (ys : List V), σ = [some (.ref L), some (.str n), some (.ref D), v3, some (.ref La), some (.ref F), some (.int (0 + (j : Int))), some (.str o), v8] ∧ Same H H5 ∧ Tx H4 H5 ∧ H5 D = some (.dK kvs) ∧ H5 La = some (.lst (line.map V.str)) ∧ H5 F = some (.lst ys) ∧ All2 (F4At H5) (acc ++ ((ownOf rows o).take t).map fun f => (f.1, f.2.1, f.2.2, o)) ys) ⟨_, _, rfl, hs4, Tx.refl _, hD4, hLa4, hF4, by simpa using hr4⟩ ?_ ?_ ?_)
      · rintro t σ H5 _ ⟨v8, ys, rfl, hs5, ht5, _⟩
        exact .of (ht5 _ _ hoa)
      · rintro t x σ H5 ht ⟨v8, ys, rfl, hs5, ht5, hD5, hLa5, hF5, hr5⟩
        obtain ⟨f, hft, hfx⟩ := hfv.right ht
        obtain ⟨fa, rfl, hfa⟩ := hfx.tx ht5
        have hyl := hr5.len
        have htl := (List.getElem?_eq_some_iff.mp hft).1
        rw [List.length_append, List.length_map, List.length_take] at hyl
        walk_at "w_go"
        rename_i q6 H6 n6 s6 e6
        refine r_append (s6 _ _ hF5) (by rw [PySem.sizeLine_eq]; omega) ?_
        have hF6 := s6 _ _ hF5
        have nFD : D ≠ F := ne_of hD5 hF5 (by intro z; cases z)
        have tx7 : Tx H5 (upd H6 F (.lst (ys ++ [V.ref q6]))) := (tx_same s6).trans (tx_lst hF6)
        refine ⟨_, ys ++ [V.ref q6], rfl, same_put (hs5.trans s6) nF, ht5.trans tx7, by rw [upd_ne nFD]; exact s6 _ _ hD5, by rw [upd_ne hLF]; exact s6 _ _ hLa5, upd_same, ?_⟩
        rw [take_more hft, List.map_append, ← List.append_assoc]
        refine All2.snoc (R := F4At (upd H6 F (.lst (ys ++ [V.ref q6])))) ⟨q6, rfl, ?_⟩ (all2_f4 hr5 tx7)
        exact tx_lst hF6 _ _ e6
      · rintro σ H5 ⟨v8, ys, rfl, hs5, ht5, hD5, hLa5, hF5, hr5⟩
        rw [← hfv.len, List.take_length] at hr5
        exact ⟨_, _, _, ys, rfl, hs5, hD5, hLa5, hF5, hr5⟩
    · rintro σ H4 ⟨v6, v7, v8, ys, rfl, hs4, hD4, hLa4, hF4, hr4⟩
      rw [show line.length = line.reverse.length from (List.length_reverse).symm, List.take_length] at hr4
      walk_at "w_go"
      refine kQ F H4 hs4 nF ⟨ys, hF4, ?_⟩
      unfold fieldsF
      rw [hline]
      exact hr4
end
end Wm
namespace Wm
open PySem L2

section
variable {P : Program} {w : World} {K : PySem.W.Frag} {mg : Str → Option Value} {base : Heap} {ad : Ad}
theorem ok_l_concrete (T : Txt P K mg ad) : FnOk P w K mg base (L2.CX P w) 2 ad.l_concrete ad.fd_l_concrete ["_law_rows"] spConc := by
  refine T.F_l_concrete.okX sc_l_concrete (fun vs H Q E h => ?_) (fun cdv A outer s H vs Q E hr h => ?_)
  · obtain ⟨L, rows, rfl, _⟩ := h
    rfl
  obtain ⟨L, rows, rfl, ⟨vs, eL, hrows⟩, hz, kQ⟩ := h
  refine ⟨_, (pss_one (ps_ret (pe_lc (own := [("_law_row", 1)]) (g := gName 1) rfl sc_l_concrete.nd (pi_list (pv 0)) (blkOk_by (own := [("_law_row", 1)]) (N := ["_law_rows", "_law_row"]) (sc := defScope s_l_concrete) (by decide +kernel)) (fun _ _ _ _ _ => pg_name (i := 1) sc_l_concrete.nd rfl (Or.inl rfl)) (fun _ _ _ _ _ => (pts_one (pt_not (pt_val (pe_ix (ix_tup : IxR _ (rIxT K)) (pv 1) pe_int (fun _ _ => rfl)))))) (fun _ _ _ _ _ => (pe_ix (ix_tup : IxR _ (rIxT K)) (pv 1) pe_int (fun _ _ => rfl)))))), ?_⟩
  rw [show L2.start ["_law_rows", "_law_row"] [V.ref L] = [some (V.ref L), none] from rfl]
  walk_at "w_go"
  refine r_ilK (.of eL) (r_lcW walk_list rows hrows.len (fun r => !r.abs) (fun r y _ => y = V.str r.name) (fun _ _ _ _ h _ => h) (fun _ s => .of (s _ _ eL)) (by rw [← hrows.len, PySem.sizeLine_eq]; omega) (fun D j r x Hi Hj acc Kt Kf hD hr sI eD y kt kf => ?_) (fun q ys H2 n2 s2 e2 hr2 => ?_))
  · obtain ⟨rfl, hx⟩ := y
    obtain ⟨x', hx', hra⟩ := hrows.left hr
    rw [hx] at hx'
    cases hx'
    obtain ⟨ra, bv, ov, rfl, hra, _, _⟩ := hra.tx (tx_same sI)
    refine ⟨wipe_set1, ?_⟩
    walk_at "w_go"
    cases hab : r.abs with
    | true =>
      refine iteF' rfl ?_
      exact kf (by simp [hab]) _ (Same.refl _)
    | false =>
      refine iteT' rfl ?_
      walk_at "w_go"
      exact kt (by simp [hab]) _ _ (Same.refl _) rfl
  · have hys := all2_map hr2
    refine kQ q H2 s2 n2 ?_
    rw [e2, hys]
    unfold concF
    rw [List.map_map]
    rfl
theorem ok_l_under (T : Txt P K mg ad) : FnOk P w K mg base (L2.CX P w) 3 ad.l_under ad.fd_l_under ["_law_rows", "_law_name"] spUnder := by
  refine T.F_l_under.okX sc_l_under (fun vs H Q E h => ?_) (fun cdv A outer s H vs Q E hr h => ?_)
  · obtain ⟨L, rows, all, n, rfl, _⟩ := h
    rfl
  obtain ⟨L, rows, all, n, rfl, hrows, ok, hz, kQ⟩ := h
  refine ⟨_, (pss_one (ps_ret (pe_lc (own := [("_law_one", 2)]) (g := gName 2) rfl sc_l_under.nd (pi_list (pe_call (ok_l_concrete T) hr rfl T.g_l_concrete T.F_l_concrete.kp T.b_l_concrete .nil passL (pa_cons (pv 0) pa_nil))) (blkOk_by (own := [("_law_one", 2)]) (N := ["_law_rows", "_law_name", "_law_one"]) (sc := defScope s_l_under) (by decide +kernel)) (fun _ _ _ _ _ => pg_name (i := 2) sc_l_under.nd rfl (Or.inl rfl)) (fun _ _ _ _ _ => (pts_one (pt_cmpR (op_in_seq : OpR _ _ (rIn K false)) (pv 1) (pe_call (ok_l_line T) hr rfl T.g_l_line T.F_l_line.kp T.b_l_line .nil passL (pa_cons (pv 0) (pa_cons (pv 2) pa_nil))) (by rfl)))) (fun _ _ _ _ _ => (pv 2))))), ?_⟩
  rw [show L2.start ["_law_rows", "_law_name", "_law_one"] [V.ref L, V.str n] = [some (V.ref L), some (V.str n), none] from rfl]
  walk_at "w_go"
  refine ⟨L, rows, rfl, hrows, hz, fun q1 H1 s1 n1 e1 => ?_⟩
  have hrows1 := hrows.same s1
  have hcl : (concF rows).length ≤ 6 := by
    unfold concF
    rw [List.length_map]
    exact Nat.le_trans (List.length_filter_le _ _) hz
  refine r_ilK (.of e1) (r_lcW walk_list (concF rows) (by rw [List.length_map]) (fun o => decide (n ∈ lineF rows o)) (fun o y _ => y = V.str o) (fun _ _ _ _ h _ => h) (fun _ s => .of (s _ _ e1)) (by rw [PySem.sizeLine_eq, List.length_map]; omega) (fun D j o x Hi Hj acc Kt Kf hD ho sI eD y kt kf => ?_) (fun q ys H2 n2 s2 e2 hr2 => ?_))
  · obtain ⟨rfl, hx⟩ := y
    rw [List.getElem?_map, ho] at hx
    cases hx
    have hmem := List.mem_of_getElem? ho
    refine ⟨wipe_set1, ?_⟩
    walk_at "w_go"
    refine ⟨L, rows, all, o, rfl, hrows1.same sI, ok, hz, conc_sub hmem, fun La H3 s3 n3 e3 => ?_⟩
    refine r_inSP (.inl (.of e3)) ?_
    walk_at "w_go"
    by_cases hm : n ∈ lineF rows o
    · refine iteT' (decide_eq_true hm) ?_
      walk_at "w_go"
      exact kt (decide_eq_true hm) _ _ s3 rfl
    · refine iteF' (decide_eq_false hm) ?_
      exact kf (decide_eq_false hm) _ s3
  · have hys := all2_map hr2
    refine kQ q H2 (s1.trans s2) (s1.free n2) ?_
    rw [e2, hys]
    rfl
end
end Wm
namespace Wm
open PySem L2

section
variable {P : Program} {w : World} {K : PySem.W.Frag} {mg : Str → Option Value} {base : Heap} {ad : Ad}
theorem ok_is_letters (T : Txt P K mg ad) : FnOk P w K mg base (L2.CX P w) 2 ad.is_letters ad.fd_is_letters ["text"] spLow := by
  refine T.F_is_letters.okX sc_is_letters (fun vs H Q E h => ?_) (fun cdv A outer s H vs Q E hr h => ?_)
  · obtain ⟨x, rfl, _⟩ := h
    rfl
  obtain ⟨x, rfl, hz, kQ⟩ := h
  obtain ⟨uLETTERS, gLETTERS, rLETTERS⟩ := T.u_LETTERS
  refine ⟨_, (pss_one (ps_ret (pe_callB (cr_all rfl) (by rfl) T.n_all (by decide +kernel) (pa_cons (pe_lc (own := [("letter", 1)]) (g := gName 1) (tt := tYes) rfl sc_is_letters.nd (pi_str (pv 0)) (blkOk_by (own := [("letter", 1)]) (N := ["text", "letter"]) (sc := defScope s_is_letters) (by decide +kernel)) (fun _ _ _ _ _ => pg_name (i := 1) sc_is_letters.nd rfl (Or.inl rfl)) (fun _ _ _ _ _ => pts_nil) (fun _ _ _ _ _ => (pe_cmpR op_inSign (pv 1) (pe_glob (v := .str LOWS) (by rfl) gLETTERS rLETTERS) (by rfl)))) pa_nil)))), ?_⟩
  rw [show L2.start ["text", "letter"] [V.str x] = [some (V.str x), none] from rfl]
  walk_at "w_go"
  have hzz : x.cps.size ≤ 100 := hz
  refine r_lcW walk_str x.cps.toList (by rw [Array.length_toList]) (fun _ => true) (fun a y _ => y = V.bl (isLow a)) (fun _ _ _ _ h _ => h) (fun _ _ => trivial) (by rw [PySem.sizeLine_eq]; omega) (fun D j a y Hi Hj acc Kt Kf hD ha sI eD yy kt kf => ?_) (fun q ys H1 n1 s1 e1 hr1 => ?_)
  · obtain ⟨rfl, c, hc, rfl⟩ := yy
    have hca : c = a := by
      rw [Array.getElem?_toList, hc] at ha
      exact Option.some.inj ha
    subst hca
    refine ⟨wipe_set1, ?_⟩
    walk_at "w_go"
    exact kt rfl _ _ (Same.refl _) (by rw [low_mem])
  · have hys := all2_map hr1
    rw [List.filter_eq_self.mpr (fun _ _ => rfl)] at hys
    walk_at "w_go"
    refine r_allK (bs := x.cps.toList.map isLow) (.of (by rw [e1, hys, List.map_map]; rfl)) ?_
    rw [List.all_map]
    exact kQ _ s1
theorem ok_is_kind_name (T : Txt P K mg ad) : FnOk P w K mg base (L2.CX P w) 3 ad.is_kind_name ad.fd_is_kind_name ["thing"] spKn := by
  refine T.F_is_kind_name.okX sc_is_kind_name (fun vs H Q E h => ?_) (fun cdv A outer s H vs Q E hr h => ?_)
  · obtain ⟨v, b, rfl, _⟩ := h
    rfl
  obtain ⟨v, b, rfl, hk, kQ⟩ := h
  obtain ⟨uCAPITALS, gCAPITALS, rCAPITALS⟩ := T.u_CAPITALS
  refine ⟨_, (pss_cons (ps_if (PW.pt (pw_or (pt_not (pt_val (pe_callB call_isi (by rfl) T.n_isinstance (by decide +kernel) (pa_cons (pv 0) (pa_cons (pe_bltn (v := .ty "str") (by rfl) T.n_str (by decide +kernel) rfl) pa_nil))))) (pw_or1 (pt_not (pt_chain op_le op_le pe_int (pe_callB c_lenS (by rfl) T.n_len PySem.boot_len (pa_cons (pv 0) pa_nil)) pe_int))))) (pss_one (ps_ret pe_bl)) pss_nil)
    (pss_one (ps_ret (pe_and (pe_cmpR op_inSign (pe_ix ix_str (pv 0) pe_int (fun _ _ => rfl)) (pe_glob (v := .str CAPS) (by rfl) gCAPITALS rCAPITALS) (by rfl)) (pe_one (pe_call (ok_is_letters T) hr rfl T.g_is_letters T.F_is_letters.kp T.b_is_letters .nil passL (pa_cons (pe_slice sl_str (pv 0) (po_some pe_int) po_none) pa_nil))))))), ?_⟩
  rw [show L2.start ["thing"] [v] = [some (v)] from rfl]
  rcases hk with ⟨x, rfl, hz, rfl⟩ | ⟨hany, hns, rfl⟩
  · walk_at "w_go"
    refine r_isi (.base (.str x)) rfl ?_
    walk_at "w_go"
    refine r_lenS hz ?_
    walk_at "w_go"
    by_cases h1 : 1 ≤ x.length
    · refine iteT' (decide_eq_true (by omega)) ?_
      walk_at "w_go"
      by_cases h8 : x.length ≤ 8
      · refine iteF' (by simp; omega) ?_
        obtain ⟨c, r, e, ek, e1, e2⟩ := kind_split x h1 h8
        walk_at "w_go"
        refine r_ixS hz (c := c) (by rw [e]; exact atI_nat (j := 0) rfl) ?_
        walk_at "w_go"
        rw [up_mem]
        cases hu : isUp c
        · refine iteF' rfl ?_
          have := kQ _ (Same.refl _)
          rw [ek, hu, Bool.false_and] at this
          exact this
        · refine iteT' rfl ?_
          walk_at "w_go"
          refine ⟨_, rfl, by rw [e2]; have : x.length = r.length + 1 := (by show x.cps.size = _; rw [← Array.length_toList, e]; rfl); omega, fun H2 s2 => ?_⟩
          rw [e1]
          have := kQ _ s2
          rw [ek, hu, Bool.true_and] at this
          exact this
      · refine iteT' (by rw [Bool.not_eq_true']; exact decide_eq_false (by omega)) ?_
        walk_at "w_go"
        have := kQ _ (Same.refl _)
        unfold kindName at this
        rw [decide_eq_false h8] at this
        simpa using this
    · refine iteF' (decide_eq_false (by omega)) ?_
      walk_at "w_go"
      have := kQ _ (Same.refl _)
      unfold kindName at this
      rw [decide_eq_false h1] at this
      simpa using this
  · obtain ⟨t, b, h1, h2, h3⟩ := hany.isStr (K := K)
    walk_at "w_go"
    refine r_isi h1 h2 ?_
    have hb : b = false := by
      cases b
      · rfl
      · obtain ⟨x, hx⟩ := h3.mp rfl
        exact absurd hx (hns x)
    subst hb
    walk_at "w_go"
    exact kQ _ (Same.refl _)
theorem ok_is_field_name (T : Txt P K mg ad) : FnOk P w K mg base (L2.CX P w) 3 ad.is_field_name ad.fd_is_field_name ["thing"] spFn := by
  refine T.F_is_field_name.okX sc_is_field_name (fun vs H Q E h => ?_) (fun cdv A outer s H vs Q E hr h => ?_)
  · obtain ⟨v, rfl, _⟩ := h
    rfl
  obtain ⟨x, rfl, hz, kQ⟩ := h
  refine ⟨_, (pss_cons (ps_if (PW.pt (pw_or (pt_not (pt_val (pe_callB call_isi (by rfl) T.n_isinstance (by decide +kernel) (pa_cons (pv 0) (pa_cons (pe_bltn (v := .ty "str") (by rfl) T.n_str (by decide +kernel) rfl) pa_nil))))) (pw_or1 (pt_not (pt_chain op_le op_le pe_int (pe_callB c_lenS (by rfl) T.n_len PySem.boot_len (pa_cons (pv 0) pa_nil)) pe_int))))) (pss_one (ps_ret pe_bl)) pss_nil)
    (pss_one (ps_ret (pe_and (pe_call (ok_is_letters T) hr rfl T.g_is_letters T.F_is_letters.kp T.b_is_letters .nil passL (pa_cons (pv 0) pa_nil)) (pe_one (pe_cmpR op_notIn_seq (pv 0) (pe_glob (v := .ref ad.RESERVED) rfl T.g_RESERVED rfl) (by rfl))))))), ?_⟩
  rw [show L2.start ["thing"] [V.str x] = [some (V.str x)] from rfl]
  walk_at "w_go"
  refine r_isi (.base (.str x)) rfl ?_
  walk_at "w_go"
  refine r_lenS hz ?_
  walk_at "w_go"
  by_cases h1 : 1 ≤ x.length
  · refine iteT' (decide_eq_true (by omega)) ?_
    walk_at "w_go"
    by_cases h8 : x.length ≤ 8
    · refine iteF' (by simp; omega) ?_
      walk_at "w_go"
      refine ⟨x, rfl, by omega, fun H2 s2 => ?_⟩
      have fin : ∀ b, b = fieldName x → Q (.bl b) H2 := fun b e => e ▸ kQ _ s2
      walk_at "w_go"
      cases hu : x.cps.toList.all isLow
      · refine iteF' rfl ?_
        refine fin _ ?_
        unfold fieldName
        rw [hu, decide_eq_true h1, decide_eq_true h8] <;> rfl
      · refine iteT' rfl ?_
        walk_at "w_go"
        refine r_inSN (.inr (T.c_RESERVED _)) (fin _ ?_)
        unfold fieldName
        rw [hu, decide_eq_true h1, decide_eq_true h8] <;> rfl
    · refine iteT' (by rw [Bool.not_eq_true']; exact decide_eq_false (by omega)) ?_
      walk_at "w_go"
      have := kQ _ (Same.refl _)
      unfold fieldName at this
      rw [decide_eq_false h8] at this
      simpa using this
  · refine iteF' (decide_eq_false (by omega)) ?_
    walk_at "w_go"
    have := kQ _ (Same.refl _)
    unfold fieldName at this
    rw [decide_eq_false h1] at this
    simpa using this
theorem ok_is_mode (T : Txt P K mg ad) : FnOk P w K mg base (L2.CX P w) 2 ad.is_mode ad.fd_is_mode ["thing"] spMode := by
  refine T.F_is_mode.okX sc_is_mode (fun vs H Q E h => ?_) (fun cdv A outer s H vs Q E hr h => ?_)
  · obtain ⟨v, rfl, _⟩ := h
    rfl
  obtain ⟨x, rfl, kQ⟩ := h
  refine ⟨_, (pss_one (ps_ret (pe_and (pe_callB call_isi (by rfl) T.n_isinstance (by decide +kernel) (pa_cons (pv 0) (pa_cons (pe_bltn (v := .ty "str") (by rfl) T.n_str (by decide +kernel) rfl) pa_nil))) (pe_one (pe_cmpR op_in_seq (pv 0) (pe_glob (v := .ref ad.MODES) rfl T.g_MODES rfl) (by rfl)))))), ?_⟩
  rw [show L2.start ["thing"] [V.str x] = [some (V.str x)] from rfl]
  walk_at "w_go"
  refine r_isi (.base (.str x)) rfl ?_
  walk_at "w_go"
  exact r_inSP (.inr (T.c_MODES _)) kQ
theorem ok_is_field (T : Txt P K mg ad) : FnOk P w K mg base (L2.CX P w) 4 ad.is_field ad.fd_is_field ["thing", "targets"] spFldOk := by
  refine T.F_is_field.okX sc_is_field (fun vs H Q E h => ?_) (fun cdv A outer s H vs Q E hr h => ?_)
  · obtain ⟨f, v, Ta, ts, rfl, _⟩ := h
    rfl
  obtain ⟨f, v, Ta, ts, rfl, ⟨a, rfl, ea⟩, eT, hz, ⟨f1, f2, f3⟩, f4, kQ⟩ := h
  refine ⟨_, (pss_cons (ps_if (PW.pt (pw_or (pt_not (pt_val (pe_callB call_isi (by rfl) T.n_isinstance (by decide +kernel) (pa_cons (pv 0) (pa_cons (pe_bltn (v := .ty "tuple") (by rfl) T.n_tuple (by decide +kernel) rfl) pa_nil))))) (pw_or1 (pt_cmpR op_ne (pe_callB c_len (by rfl) T.n_len PySem.boot_len (pa_cons (pv 0) pa_nil)) pe_int (nomark _))))) (pss_one (ps_ret pe_bl)) pss_nil)
    (pss_cons (ps_asg (pv 0) (pg_tup rfl (pgs_cons (pg_name (i := 2) sc_is_field.nd rfl (Or.inl rfl)) (pgs_cons (pg_name (i := 3) sc_is_field.nd rfl (Or.inl rfl)) (pgs_cons (pg_name (i := 4) sc_is_field.nd rfl (Or.inl rfl)) pgs_nil)))))
    (pss_one (ps_ret (pe_and (pe_call (ok_is_field_name T) hr rfl T.g_is_field_name T.F_is_field_name.kp T.b_is_field_name .nil passL (pa_cons (pv 2) pa_nil)) (pe_and (pe_call (ok_is_mode T) (hr.mono (by decide)) rfl T.g_is_mode T.F_is_mode.kp T.b_is_mode .nil passL (pa_cons (pv 3) pa_nil)) (pe_and (pe_call (ok_is_kind_name T) hr rfl T.g_is_kind_name T.F_is_kind_name.kp T.b_is_kind_name .nil passL (pa_cons (pv 4) pa_nil)) (pe_one (pe_cmpR op_in_seq (pv 4) (pv 1) (by rfl)))))))))), ?_⟩
  rw [show L2.start ["thing", "targets", "name", "mode", "target"] [V.ref a, V.ref Ta] = [some (V.ref a), some (V.ref Ta), none, none, none] from rfl]
  have l1 := fieldName_len f1
  have l2 := kindName_len f4
  walk_at "w_go"
  refine r_isi (.base (.tup ea)) rfl ?_
  walk_at "w_go"
  refine iteF' (by rw [Bool.not_eq_false']; exact decide_eq_true rfl) ?_
  walk_at "w_go"
  refine ⟨f.1, rfl, by rw [PySem.sizeLine_eq]; omega, fun H1 s1 => ?_⟩
  rw [f1]
  walk_at "w_go"
  refine ⟨f.2.1, rfl, ?_⟩
  rw [decide_eq_true f2]
  walk_at "w_go"
  refine ⟨.str f.2.2, true, rfl, .inl ⟨_, rfl, by rw [PySem.sizeLine_eq]; omega, f4.symm⟩, fun H2 s2 => ?_⟩
  walk_at "w_go"
  refine r_inSP (.inl (.of (s2 _ _ (s1 _ _ eT)))) ?_
  rw [decide_eq_true f3]
  exact kQ _ (s1.trans s2)
theorem ok_is_bases (T : Txt P K mg ad) : FnOk P w K mg base (L2.CX P w) 4 ad.is_bases ad.fd_is_bases ["thing", "names"] spBasesOk := by
  refine T.F_is_bases.okX sc_is_bases (fun vs H Q E h => ?_) (fun cdv A outer s H vs Q E hr h => ?_)
  · obtain ⟨ss, v, d, kvs, rfl, _⟩ := h
    rfl
  obtain ⟨ss, v, d, kvs, rfl, ⟨a, rfl, ea⟩, ed, hl, hnd, hall, kQ⟩ := h
  obtain ⟨uMOST_BASES, gMOST_BASES, rMOST_BASES⟩ := T.u_MOST_BASES
  refine ⟨_, (pss_cons (ps_if (PW.pt (pw_or (pt_not (pt_val (pe_callB call_isi (by rfl) T.n_isinstance (by decide +kernel) (pa_cons (pv 0) (pa_cons (pe_bltn (v := .ty "tuple") (by rfl) T.n_tuple (by decide +kernel) rfl) pa_nil))))) (pw_or1 (pt_cmpR op_gt (pe_callB c_len (by rfl) T.n_len PySem.boot_len (pa_cons (pv 0) pa_nil)) (pe_glob (v := .int 3) (by rfl) gMOST_BASES rMOST_BASES) (nomark _))))) (pss_one (ps_ret pe_bl)) pss_nil)
    (pss_cons (ps_if (pt_not (pt_val (pe_callB (cr_all rfl) (by rfl) T.n_all (by decide +kernel) (pa_cons (pe_lc (own := [("name", 2)]) (g := gName 2) (tt := tYes) rfl sc_is_bases.nd (pi_tup (pv 0)) (blkOk_by (own := [("name", 2)]) (N := ["thing", "names", "name"]) (sc := defScope s_is_bases) (by decide +kernel)) (fun _ _ _ _ _ => pg_name (i := 2) sc_is_bases.nd rfl (Or.inl rfl)) (fun _ _ _ _ _ => pts_nil) (fun _ _ _ _ _ => (pe_and (pe_call (ok_is_kind_name T) hr rfl T.g_is_kind_name T.F_is_kind_name.kp T.b_is_kind_name .nil passL (pa_cons (pv 2) pa_nil)) (pe_one (pe_cmp (pc_din (hu_of hr) (pv 2) (pv 1))))))) pa_nil)))) (pss_one (ps_ret pe_bl)) pss_nil)
    (pss_one (ps_ret (pe_cmpR op_eq (pe_lenSetS (by rfl) T.n_len (by rfl) T.n_set (pv 0)) (pe_callB c_len (by rfl) T.n_len PySem.boot_len (pa_cons (pv 0) pa_nil)) (nomark _)))))), ?_⟩
  rw [show L2.start ["thing", "names", "name"] [V.ref a, V.ref d] = [some (V.ref a), some (V.ref d), none] from rfl]
  walk_at "w_go"
  refine r_isi (.base (.tup ea)) rfl ?_
  walk_at "w_go"
  refine iteF' (by simp; omega) ?_
  walk_at "w_go"
  refine r_itK (.of ea) ?_
  refine r_lcW walk_tup ss (by rw [List.length_map]) (fun _ => true) (fun a y _ => y = V.bl true) (fun _ _ _ _ h _ => h) (fun _ s => .of (s _ _ ea)) (by rw [PySem.sizeLine_eq, List.length_map]; omega) (fun D j x y Hi Hj acc Kt Kf hD ha sI eD yy kt kf => ?_) (fun q ys H1 n1 s1 e1 hr1 => ?_)
  · obtain ⟨rfl, hx⟩ := yy
    obtain ⟨x', rfl, hx'⟩ := str_ix hx
    rw [ha] at hx'
    cases hx'
    obtain ⟨k1, k2⟩ := hall x (List.mem_of_getElem? ha)
    have l1 := kindName_len k1
    refine ⟨wipe_set1, ?_⟩
    walk_at "w_go"
    refine ⟨.str x, true, rfl, .inl ⟨_, rfl, by rw [PySem.sizeLine_eq]; omega, k1.symm⟩, fun H2 s2 => ?_⟩
    walk_at "w_go"
    refine ⟨d, _, rfl, DGet.k (k := .inr x) (s2 _ _ (sI _ _ ed)), ?_⟩
    exact kt rfl _ _ s2 (by rw [k2])
  · have hys := all2_map hr1
    rw [List.filter_eq_self.mpr (fun _ _ => rfl)] at hys
    walk_at "w_go"
    refine r_allK (bs := ss.map fun _ => true) (.of (by rw [e1, hys, List.map_map]; rfl)) ?_
    refine ⟨_, rfl, ?_⟩
    refine iteF' (by simp) ?_
    walk_at "w_go"
    refine ⟨a, ss, rfl, .inr (.of (s1 _ _ ea)), by omega, ?_⟩
    have ea1 := s1 _ _ ea
    have := kQ _ s1
    rw [nub_nodup hnd]
    walk_at "w_go"
    rw [List.length_map]
    simpa using this
end
end Wm
namespace Wm
open PySem L2

section
variable {P : Program} {w : World} {K : PySem.W.Frag} {mg : Str → Option Value} {base : Heap} {ad : Ad}
theorem ok_Kind_init (T : Txt P K mg ad) : FnOk P w K mg base (L2.CX P w) 2 ad.Kind_init ad.fd_Kind_init ["self", "row", "known"] (spKInit ad.Kind) := by
  refine T.F_Kind_init.okX sc_Kind_init (fun vs H Q E h => ?_) (fun cdv A outer s H vs Q E hr h => ?_)
  · obtain ⟨a, dx, r, pre, all, v, d, kvs, rfl, _⟩ := h
    rfl
  obtain ⟨a, dx, r, pre, all, v, d, kvs, rfl, ea, ⟨ra, bv, ov, rfl, era, ⟨ba, rfl, eba⟩, ⟨oa, ovs, rfl, eoa, hown⟩⟩, hkn, hok, hpl, kQ⟩ := h
  refine ⟨_, (pss_cons (ps_fld (pv 0) (pe_ix ix_tup (pv 1) pe_int (fun _ _ => rfl)) rfl)
    (pss_cons (ps_fld (pv 0) (pe_ix ix_tup (pv 1) pe_int (fun _ _ => rfl)) rfl)
    (pss_cons (ps_fld (pv 0) (pe_ix ix_tup (pv 1) pe_int (fun _ _ => rfl)) rfl)
    (pss_cons (ps_fld (pv 0) (pe_ix ix_tup (pv 1) pe_int (fun _ _ => rfl)) rfl)
    (pss_cons (ps_set (i := 3) sc_Kind_init.nd rfl (Or.inr rfl) (pe_lst (pa_cons (pe_ix ix_tup (pv 1) pe_int (fun _ _ => rfl)) pa_nil)))
    (pss_cons (ps_for (passes_of rfl) rfl (pi_tup (pe_ix ix_tup (pv 1) pe_int (fun _ _ => rfl))) (pg_name (i := 4) sc_Kind_init.nd rfl (Or.inl rfl)) (pss_one (ps_expr (pe_bm PySem.F.plainAttrs_list PySem.F.slot_list_extend PySem.F.type_list_extend mt_extT (pv 3) (pa_cons (pe_fld (pe_dget (hu_of hr) (pv 2) (pv 4) (fun _ _ => rfl)) rfl) pa_nil)))))
    (pss_cons (ps_fld (pv 0) (pe_callTy c_tuple (by rfl) T.n_tuple (by decide +kernel) (pa_cons (pe_lc (own := [("at", 5), ("name", 6)]) (g := gTup K 2 (gCons (gName 5) (gCons (gName 6) gNil))) rfl sc_Kind_init.nd (pi_enum (by rfl) T.n_enumerate (pa_cons (pv 3) pa_nil)) (blkOk_by (own := [("at", 5), ("name", 6)]) (N := ["self", "row", "known", "line", "base", "at", "name", "fields", "owned", "field", "mode", "target"]) (sc := defScope s_Kind_init) (by decide +kernel)) (fun _ _ _ _ _ => pg_tup rfl (pgs_cons (pg_name (i := 5) sc_Kind_init.nd rfl (Or.inl rfl)) (pgs_cons (pg_name (i := 6) sc_Kind_init.nd rfl (Or.inl rfl)) pgs_nil))) (fun _ _ _ _ _ => (pts_one (pt_cmpR (op_notIn_seq : OpR _ _ (rIn K true)) (pv 6) (pe_slice (sl_list : SlR _ (rSlL K)) (pv 3) (po_some (pe_op op_add (pv 5) pe_int)) po_none) (by rfl)))) (fun _ _ _ _ _ => (pv 6))) pa_nil)) rfl)
    (pss_cons (ps_set (i := 7) sc_Kind_init.nd rfl (Or.inl rfl) (pe_lst pa_nil))
    (pss_cons (ps_for (passes_of rfl) rfl (pi_reversed (by rfl) T.n_reversed (pa_cons (pe_callTy c_list (by rfl) T.n_list (by decide +kernel) (pa_cons (pe_fld (pv 0) rfl) pa_nil)) pa_nil)) (pg_name (i := 6) sc_Kind_init.nd rfl (Or.inl rfl)) (pss_cons (ps_set (i := 8) sc_Kind_init.nd rfl (Or.inl rfl) (pe_ifExp (pt_cmpR op_eq (pv 6) (pe_fld (pv 0) rfl) (nomark _)) (pe_fld (pv 0) rfl) (pe_fld (pe_dget (hu_of hr) (pv 2) (pv 6) (fun _ _ => rfl)) rfl)))
    (pss_one (ps_for (passes_of rfl) rfl (pi_tup (pv 8)) (pg_tup rfl (pgs_cons (pg_name (i := 9) sc_Kind_init.nd rfl (Or.inl rfl)) (pgs_cons (pg_name (i := 10) sc_Kind_init.nd rfl (Or.inl rfl)) (pgs_cons (pg_name (i := 11) sc_Kind_init.nd rfl (Or.inl rfl)) pgs_nil)))) (pss_one (ps_expr (pe_bm PySem.F.plainAttrs_list PySem.F.slot_list_append PySem.F.type_list_append mt_append (pv 7) (pa_cons (pe_tup (pa_cons (pv 9) (pa_cons (pv 10) (pa_cons (pv 11) (pa_cons (pv 6) pa_nil))))) pa_nil))))))))
    (pss_one (ps_fld (pv 0) (pe_callTy c_tuple (by rfl) T.n_tuple (by decide +kernel) (pa_cons (pv 7) pa_nil)) rfl))))))))))), ?_⟩
  rw [show L2.start ["self", "row", "known", "line", "base", "at", "name", "fields", "owned", "field", "mode", "target"] [V.ref a, V.ref ra, V.ref d] = [some (V.ref a), some (V.ref ra), some (V.ref d), none, none, none, none, none, none, none, none, none] from rfl]
  have cl := T.ow_Kind.cl
  have f1 := T.no_Kind_name
  have f2 := T.no_Kind_bases
  have f3 := T.no_Kind_is_abstract
  have f4' := T.no_Kind_own
  have f5 := T.no_Kind_line
  have f6 := T.no_Kind_fields
  have okr := hok.last
  have okp := hok.init
  walk_at "w_go"
  rename_i L H1 n1 s1 e1
  have b0 : But a H _ := ((((But.refl a H).self (o := .ins ad.Kind dx (putF "name" (V.str r.name) []))).self (o := .ins ad.Kind dx (putF "bases" (V.ref ba) (putF "name" (V.str r.name) [])))).self (o := .ins ad.Kind dx (putF "is_abstract" (V.bl r.abs) (putF "bases" (V.ref ba) (putF "name" (V.str r.name) []))))).self (o := .ins ad.Kind dx (putF "own" (V.ref oa) (putF "is_abstract" (V.bl r.abs) (putF "bases" (V.ref ba) (putF "name" (V.str r.name) [])))))
  have nL : H L = none := b0.free upd_same n1
  have b1 : But a H H1 := b0.same s1
  have ea1 : H1 a = some (.ins ad.Kind dx [("name", V.str r.name), ("bases", V.ref ba), ("is_abstract", V.bl r.abs), ("own", V.ref oa)]) := s1 _ _ upd_same
  clear b0 n1 s1
  have naL : a ≠ L := fun z => by
    rw [z, nL] at ea
    cases ea
  have hb := okp.bs
  have ntx : ∀ {H' : Hp}, But a H H' → Tx H H' := fun b => b.tx ea
  refine r_itK (.of (ntx b1 _ _ eba)) (for_tup (K := K) (a := ba) (xs := r.bases.map V.str) (fun j σ H' => ∃ (v4 : Option V), σ = [some (.ref a), some (.ref ra), some (.ref d), some (.ref L), v4, none, none, none, none, none, none, none] ∧ But a H H' ∧ H' a = some (.ins ad.Kind dx [("name", V.str r.name), ("bases", V.ref ba), ("is_abstract", V.bl r.abs), ("own", V.ref oa)]) ∧ H' L = some (.lst ((r.name :: (r.bases.take j).flatMap (lineF pre)).map V.str))) ⟨none, rfl, b1, ea1, e1⟩ ?_ ?_ ?_)
  · rintro j σ H' _ ⟨v4, rfl, b2, _⟩
    exact .of (ntx b2 _ _ eba)
  · rintro j x σ H' hj ⟨v4, rfl, b2, ea2, eL2⟩
    obtain ⟨b, rfl, hbj⟩ := str_ix hj
    have hbn := okr.bsub b (List.mem_of_getElem? hbj)
    have kn2 := hkn.butI ea b2
    obtain ⟨r0, v0, hr0, rfl, hv0, ka, kdx, kbv, kov, kla, kfa, kfvs, rfl, kin⟩ := known_some kn2 hbn
    have hl1 : ((r.bases.take j).flatMap (lineF pre)).length ≤ 3 * 6 := Nat.le_trans (flat_le (k := 6) fun x _ => Nat.le_trans (line_len hb x) (by omega)) (Nat.mul_le_mul (Nat.le_trans (by rw [List.length_take]; exact Nat.min_le_right _ _) okr.blen) (Nat.le_refl _))
    have hl2 := line_len hb r0.name
    have hd2 := kn2.at_
    have hk2 := kin.at_
    have hkl := kin.line
    walk_at "w_go"
    refine r_dgetK hd2 hv0 ?_
    refine r_fldK hk2 cl f5 rfl ?_
    walk_at "w_go"
    refine r_extT eL2 hkl (by rw [PySem.sizeLine_eq]; simp only [List.length_map, List.length_cons]; omega) ?_
    refine ⟨_, rfl, b2.put nL, by rw [upd_ne naL]; exact ea2, ?_⟩
    rw [upd_same, ← List.map_append, take_flat hbj]
    rfl
  · rintro σ H' ⟨v4, rfl, b2, ea2, eL2⟩
    rw [List.length_map, List.take_length] at eL2
    have hl1 : (r.bases.flatMap (lineF pre)).length ≤ 3 * 6 := Nat.le_trans (flat_le (k := 6) fun x _ => Nat.le_trans (line_len hb x) (by omega)) (Nat.mul_le_mul okr.blen (Nat.le_refl _))
    have hlz : (r.name :: r.bases.flatMap (lineF pre)).length ≤ 19 := by
      rw [List.length_cons]
      omega
    have eline := line_new (rows := pre) (r := r) okr.fresh
    generalize hline : (r.name :: r.bases.flatMap (lineF pre)) = line at eL2 hlz eline
    clear hl1 e1 b1 ea1
    walk_at "w_go"
    refine r_ieK (.of eL2) ?_
    refine r_lcW (walk_enum (K := K) (a := L) (xs := line.map V.str)) (sufs line) (by rw [sufs_len, List.length_map]) (fun a => !decide (a.1 ∈ a.2)) (fun a y _ => y = V.str a.1) (fun _ _ _ _ h _ => h) (fun _ s => .of (s _ _ eL2)) (by rw [PySem.sizeLine_eq, List.length_map]; omega) (fun D2 j e x Hi Hj acc Kt Kf hD2 ha sI eD2 y kt kf => ?_) (fun q ys H3 n3 s3 e3 hr3 => ?_)
    · obtain ⟨Tp, x1, y1, rfl, nT, rfl, ex, ey⟩ := y
      cases ex
      obtain ⟨a1, a2⟩ := sufs_at ha
      have sT : Same Hi (upd Hi Tp (.tup [.int (j : Nat), y1])) := same_new nT
      have eT : (upd Hi Tp (.tup [.int (j : Nat), y1])) Tp = some (.tup [.int (j : Nat), y1]) := upd_same
      generalize upd Hi Tp (.tup [.int (j : Nat), y1]) = Hj at sT eT kt kf
      have eL3 := sT _ _ (sI _ _ eL2)
      have ey2 : (line.map V.str)[j]? = some y1 := ey
      rw [List.getElem?_map, a1] at ey2
      cases ey2
      clear ey
      generalize hw : wipe [some (V.ref a), some (V.ref ra), some (V.ref d), some (V.ref L), v4, none, none, none, none, none, none, none] _ = σ0
      have hw2 : σ0 = [some (V.ref a), some (V.ref ra), some (V.ref d), some (V.ref L), v4, none, none, none, none, none, none, none] := hw.symm.trans rfl
      clear hw
      subst hw2
      refine r_gtupK eT rfl ?_
      walk_at "w_go"
      refine ⟨rfl, ?_⟩
      walk_at "w_go"
      rename_i q5 H5 n5 s5 e5
      rw [show (j : Int) + 1 = ((j + 1 : Nat) : Int) from by omega, cut_from, ← List.map_drop, a2] at e5
      refine r_inSN (.inl (.of e5)) ?_
      walk_at "w_go"
      by_cases hm : e.1 ∈ e.2
      · refine iteF' (by simp [hm]) ?_
        exact kf (by simp [hm]) H5 (sT.trans s5)
      · refine iteT' (by simp [hm]) ?_
        walk_at "w_go"
        exact kt (by simp [hm]) _ _ (sT.trans s5) rfl
    · have hys := all2_map hr3
      rw [sufs_last, ← eline] at hys
      subst hys
      have eline2 : (lineF (pre ++ [r]) r.name).length ≤ 6 := Nat.le_trans (line_len hok.bs r.name) (by rw [List.length_append]; simp only [List.length_cons, List.length_nil]; omega)
      walk_at "w_go"
      refine r_tupL (.of e3) (fun q4 n4 => ?_)
      have s4 := same_new (o := .tup ((lineF (pre ++ [r]) r.name).map V.str)) n4
      have e4 : (upd H3 q4 (.tup ((lineF (pre ++ [r]) r.name).map V.str))) q4 = _ := upd_same
      generalize upd H3 q4 (.tup ((lineF (pre ++ [r]) r.name).map V.str)) = H4 at s4 e4
      have b4 := b2.same (s3.trans s4)
      have ea4 := s4 _ _ (s3 _ _ ea2)
      have n4a : H q4 = none := b2.free ea2 (s3.free n4)
      have na4 : q4 ≠ a := fun z => by
        rw [z, ea] at n4a
        cases n4a
      clear s3 s4 n4 e3 n3 eL2 b2 ea2
      walk_at "w_go"
      rename_i F H6 n6 s6 e6 qL H7 n7 s7 e7
      have b6 : But a H H6 := (b4.self).same s6
      have ea6 : H6 a = some (.ins ad.Kind dx [("name", V.str r.name), ("bases", V.ref ba), ("is_abstract", V.bl r.abs), ("own", V.ref oa), ("line", V.ref q4)]) := s6 _ _ upd_same
      have e46 := s6 _ _ ((upd_ne na4).trans e4)
      have nF : H F = none := (b4.self).free upd_same n6
      have nqL : H qL = none := b6.free ea6 n7
      have b7 := b6.same s7
      have ea7 := s7 _ _ ea6
      have e47 := s7 _ _ e46
      have eF7 := s7 _ _ e6
      have nFL : qL ≠ F := fun z => by
        rw [z, e6] at n7
        cases n7
      have naF : a ≠ F := fun z => by
        rw [z, nF] at ea
        cases ea
      have n4F : q4 ≠ F := ne_of e47 eF7 (by intro z; cases z)
      clear b4 ea4 e4 n6 s6 e6 n7 s7 b6 ea6 e46 hr3
      have hsub : ∀ o, o ∈ lineF (pre ++ [r]) r.name → o ∈ names (pre ++ [r]) := fun o ho => line_sub hok.bs ho
      have ndp := okp.nd
      have kF : ∀ H', But a H H' → (∃ la fa fvs, H' a = some (.ins ad.Kind dx (kfs r.name (.ref ba) r.abs (.ref oa) la fa)) ∧ H' la = some (.tup ((lineF (pre ++ [r]) r.name).map V.str)) ∧ H' fa = some (.tup fvs) ∧ All2 (F4At H') (fieldsF (pre ++ [r]) r.name) fvs) → Q V.non H' := fun H' b h => by
        obtain ⟨la, fa, fvs, h1, h2, h3, h4⟩ := h
        exact kQ H' b ⟨a, dx, _, _, la, fa, fvs, rfl, h1, ⟨ba, rfl, ntx b _ _ eba⟩, ⟨oa, ovs, rfl, ntx b _ _ eoa, hown.mono fun _ _ z => z.tx (ntx b)⟩, h2, h3, h4⟩
      unfold fieldsF at kF
      have fl4 := fields_len hok (n := r.name) (by simp [names])
      unfold fieldsF at fl4
      generalize hline2 : lineF (pre ++ [r]) r.name = line2 at e47 e7 kF fl4 hsub eline2
      let f4 : Str → List Fld4 := fun o => (ownOf (pre ++ [r]) o).map fun f => (f.1, f.2.1, f.2.2, o)
      refine ⟨qL, _, rfl, .of e7, ?_⟩
      refine for_it (walk_rev (K := K) (a := qL) (xs := line2.map V.str)) (fun j σ H' => ∃ (v6 v8 v9 v10 v11 : Option V) (ys : List V), σ = [some (.ref a), some (.ref ra), some (.ref d), some (.ref L), v4, none, v6, some (.ref F), v8, v9, v10, v11] ∧ But a H H' ∧ H' a = some (.ins ad.Kind dx [("name", V.str r.name), ("bases", V.ref ba), ("is_abstract", V.bl r.abs), ("own", V.ref oa), ("line", V.ref q4)]) ∧ H' q4 = some (.tup (line2.map V.str)) ∧ H' qL = some (.lst (line2.map V.str)) ∧ H' F = some (.lst ys) ∧ All2 (F4At H') ((line2.reverse.take j).flatMap f4) ys) ⟨_, _, _, _, _, _, rfl, b7, ea7, e47, e7, eF7, .nil⟩ ?_ ?_ ?_
      · rintro j σ H' _ ⟨v6, v8, v9, v10, v11, ys, rfl, _, _, _, h, _⟩
        exact .of h
      · rintro j x σ H8 H9 hj ⟨v6, v8, v9, v10, v11, ys, rfl, b8, ea8, e48, eq8, eF8, hr8⟩ ⟨rfl, hx⟩
        obtain ⟨o, rfl, ho⟩ := str_ix hx
        rw [List.length_map] at ho hj
        have hrj : line2.reverse[j]? = some o := by
          rw [List.getElem?_reverse hj]
          exact ho
        have hom : o ∈ line2 := List.mem_of_getElem? ho
        have own4 : ∀ o, (ownOf (pre ++ [r]) o).length ≤ 4 := fun o => own_len hok o
        have hacc : ((line2.reverse.take j).flatMap f4).length ≤ 6 * 4 := Nat.le_trans (flat_le (k := 4) fun x hx => by
          show ((ownOf (pre ++ [r]) x).map _).length ≤ 4
          rw [List.length_map]
          exact own4 x) (Nat.mul_le_mul (by rw [List.length_take, List.length_reverse]; omega) (Nat.le_refl _))
        have kn8 := hkn.butI ea b8
        have hd8 := kn8.at_
        have hown : ∃ ow ovs, H9 ow = some (.tup ovs) ∧ All2 (FldAt H9) (ownOf (pre ++ [r]) o) ovs ∧ (o = r.name → ow = oa) ∧ (o ≠ r.name → ∃ ka kdx n0 bv ab la fa, valV kvs (.inr o) = some (.ref ka) ∧ H9 ka = some (.ins ad.Kind kdx (kfs n0 bv ab (.ref ow) la fa))) := by
          by_cases hor : o = r.name
          · subst hor
            refine ⟨oa, ovs, ntx b8 _ _ eoa, ?_, fun _ => rfl, fun z => absurd rfl z⟩
            rw [own_new okr.fresh]
            exact hown.mono fun _ _ z => z.tx (ntx b8)
          · have hop : o ∈ names pre := by
              have := hsub o hom
              unfold names at this
              rw [List.map_append, List.mem_append] at this
              rcases this with z | z
              · exact z
              · simp only [List.map_cons, List.map_nil, List.mem_cons, List.not_mem_nil, or_false] at z
                exact absurd z hor
            obtain ⟨r0, v0, hr0, rfl, hv0, ka, kdx, kbv, kov, kla, kfa, kfvs, rfl, kin⟩ := known_some kn8 hop
            obtain ⟨ow, ovs, rfl, h1, h2⟩ := kin.own
            refine ⟨ow, ovs, h1, ?_, fun z => absurd z hor, fun _ => ⟨ka, kdx, _, _, _, _, _, hv0, kin.at_⟩⟩
            rw [own_keeps hop, own_of ndp hr0]
            exact h2
        obtain ⟨ow, ovs, eow, how, ow1, ow2⟩ := hown
        walk_at "w_go"
        refine r_ifV (V.ref ow) (fun hc R h => ?_) (fun hc R h => ?_) ?_
        · cases ow1 (of_decide_eq_true hc)
          walk_at "w_go"
          exact h
        · obtain ⟨ka, kdx, n0, bv, ab, la, fa, g1, g2⟩ := ow2 (of_decide_eq_false hc)
          walk_at "w_go"
          refine r_dgetK hd8 g1 ?_
          refine r_fldK g2 cl f4' rfl ?_
          exact h
        have holen := own4 o
        have eacc := take_flat (f := f4) hrj
        generalize ((line2.reverse.take j).flatMap f4) = acc at hr8 hacc eacc
        have hyl := hr8.len
        walk_at "w_go"
        refine r_itK (.of eow) ?_
        refine for_tup (K := K) (a := ow) (xs := ovs) (fun t σ H5 => ∃ (v9 v10 v11 : Option V) (ys : List V), σ = [some (.ref a), some (.ref ra), some (.ref d), some (.ref L), v4, none, some (.str o), some (.ref F), some (.ref ow), v9, v10, v11] ∧ But a H H5 ∧ Tx H9 H5 ∧ H5 a = some (.ins ad.Kind dx [("name", V.str r.name), ("bases", V.ref ba), ("is_abstract", V.bl r.abs), ("own", V.ref oa), ("line", V.ref q4)]) ∧ H5 qL = some (.lst (line2.map V.str)) ∧ H5 F = some (.lst ys) ∧ All2 (F4At H5) (acc ++ ((ownOf (pre ++ [r]) o).take t).map fun f => (f.1, f.2.1, f.2.2, o)) ys) ⟨_, _, _, _, rfl, b8, Tx.refl _, ea8, eq8, eF8, by simpa using hr8⟩ ?_ ?_ ?_
        · rintro t σ H5 _ ⟨v9, v10, v11, ys, rfl, _, ht5, _⟩
          exact .of (ht5 _ _ eow)
        · rintro t x σ H5 ht ⟨v9, v10, v11, ys, rfl, b5, ht5, ea5, eq5, hF5, hr5⟩
          obtain ⟨f, hft, hfx⟩ := how.right ht
          obtain ⟨fa, rfl, hfa⟩ := hfx.tx ht5
          have hyl := hr5.len
          have htl := (List.getElem?_eq_some_iff.mp hft).1
          rw [List.length_append, List.length_map, List.length_take] at hyl
          walk_at "w_go"
          rename_i q6 H6 n6 s6 e6
          have hF6 := s6 _ _ hF5
          have tx7 : Tx H5 (upd H6 F (.lst (ys ++ [V.ref q6]))) := (tx_same s6).trans (tx_lst hF6)
          refine ⟨_, _, _, ys ++ [V.ref q6], rfl, (b5.same s6).put nF, ht5.trans tx7, by rw [upd_ne naF]; exact s6 _ _ ea5, by rw [upd_ne nFL]; exact s6 _ _ eq5, upd_same, ?_⟩
          rw [take_more hft, List.map_append, ← List.append_assoc]
          refine All2.snoc (R := F4At (upd H6 F (.lst (ys ++ [V.ref q6])))) ⟨q6, rfl, ?_⟩ (all2_f4 hr5 tx7)
          exact tx_lst hF6 _ _ e6
        · rintro σ H5 ⟨v9, v10, v11, ys, rfl, b5, ht5, ea5, eq5, hF5, hr5⟩
          rw [← how.len, List.take_length] at hr5
          refine ⟨_, _, _, _, _, ys, rfl, b5, ea5, ht5 _ _ e48, eq5, hF5, ?_⟩
          rw [eacc]
          exact hr5
      · rintro σ H8 ⟨v6, v8, v9, v10, v11, ys, rfl, b8, ea8, e48, eq8, eF8, hr8⟩
        rw [List.length_map, ← List.length_reverse (as := line2), List.take_length] at hr8
        have hyl := hr8.len
        walk_at "w_go"
        refine r_tupL (.of eF8) (fun q9 n9 => ?_)
        have s9 := same_new (o := .tup ys) n9
        have e9 : (upd H8 q9 (.tup ys)) q9 = _ := upd_same
        generalize upd H8 q9 (.tup ys) = H9 at s9 e9
        have b9 := b8.same s9
        have ea9 := s9 _ _ ea8
        have na9 : q9 ≠ a := fun z => by
          rw [z, ea8] at n9
          cases n9
        have tx9 : Tx H8 _ := (tx_same s9).trans (tx_put (q := a) (o := .ins ad.Kind dx (kfs r.name (.ref ba) r.abs (.ref oa) q4 q9)) fun xs z => by
          rw [ea9] at z
          cases z)
        walk_at "w_go"
        exact kF _ b9.self ⟨q4, q9, ys, upd_same, tx9 _ _ e48, by rw [upd_ne na9]; exact e9, all2_f4 hr8 tx9⟩
end
end Wm
namespace Wm
open PySem L2

section
variable {P : Program} {w : World} {K : PySem.W.Frag} {mg : Str → Option Value} {base : Heap} {ad : Ad}
theorem ok_make_kind (T : Txt P K mg ad) : FnOk P w K mg base (L2.CX P w) 5 ad.make_kind ad.fd_make_kind ["row", "known", "targets"] (spMkK ad.Kind) := by
  refine T.F_make_kind.okX sc_make_kind (fun vs H Q E h => ?_) (fun cdv A outer s H vs Q E hr h => ?_)
  · obtain ⟨r, pre, all, v, d, Ta, kvs, rfl, _⟩ := h
    rfl
  obtain ⟨r, pre, all, v, d, Ta, kvs, rfl, hra, hkn, eT, hok, hpl, hal, hka, kQ⟩ := h
  have hra0 := hra
  obtain ⟨ra, bv, ov, rfl, era, ⟨ba, rfl, eba⟩, ⟨oa, ovs, rfl, eoa, hown⟩⟩ := hra
  refine ⟨_, (pss_cons (ps_if (PW.pt (pw_or (pt_not (pt_val (pe_callB call_isi (by rfl) T.n_isinstance (by decide +kernel) (pa_cons (pv 0) (pa_cons (pe_bltn (v := .ty "tuple") (by rfl) T.n_tuple (by decide +kernel) rfl) pa_nil))))) (pw_or1 (pt_cmpR op_ne (pe_callB c_len (by rfl) T.n_len PySem.boot_len (pa_cons (pv 0) pa_nil)) pe_int (nomark _))))) (pss_one (ps_ret pe_non)) pss_nil)
    (pss_cons (ps_asg (pv 0) (pg_tup rfl (pgs_cons (pg_name (i := 3) sc_make_kind.nd rfl (Or.inl rfl)) (pgs_cons (pg_name (i := 4) sc_make_kind.nd rfl (Or.inl rfl)) (pgs_cons (pg_name (i := 5) sc_make_kind.nd rfl (Or.inl rfl)) (pgs_cons (pg_name (i := 6) sc_make_kind.nd rfl (Or.inl rfl)) pgs_nil))))))
    (pss_cons (ps_if (PW.pt (pw_or (pt_not (pt_val (pe_call (ok_is_kind_name T) (hr.mono (by decide)) rfl T.g_is_kind_name T.F_is_kind_name.kp T.b_is_kind_name .nil passL (pa_cons (pv 3) pa_nil)))) (pw_or (pt_cmp (pc_din (hu_of hr) (pv 3) (pv 1))) (pw_or1 (pt_not (pt_val (pe_call (ok_is_bases T) hr rfl T.g_is_bases T.F_is_bases.kp T.b_is_bases .nil passL (pa_cons (pv 4) (pa_cons (pv 1) pa_nil))))))))) (pss_one (ps_ret pe_non)) pss_nil)
    (pss_cons (ps_if (PW.pt (pw_or (pt_not (pt_val (pe_callB call_isi (by rfl) T.n_isinstance (by decide +kernel) (pa_cons (pv 5) (pa_cons (pe_bltn (v := .ty "bool") (by rfl) T.n_bool (by decide +kernel) rfl) pa_nil))))) (pw_or1 (pt_not (pt_val (pe_callB call_isi (by rfl) T.n_isinstance (by decide +kernel) (pa_cons (pv 6) (pa_cons (pe_bltn (v := .ty "tuple") (by rfl) T.n_tuple (by decide +kernel) rfl) pa_nil)))))))) (pss_one (ps_ret pe_non)) pss_nil)
    (pss_cons (ps_if (pt_not (pt_val (pe_callB (cr_all rfl) (by rfl) T.n_all (by decide +kernel) (pa_cons (pe_lc (own := [("field", 7)]) (g := gName 7) (tt := tYes) rfl sc_make_kind.nd (pi_tup (pv 6)) (blkOk_by (own := [("field", 7)]) (N := ["row", "known", "targets", "name", "bases", "is_abstract", "own", "field", "kind", "names"]) (sc := defScope s_make_kind) (by decide +kernel)) (fun _ _ _ _ _ => pg_name (i := 7) sc_make_kind.nd rfl (Or.inl rfl)) (fun _ _ _ _ _ => pts_nil) (fun _ _ _ _ _ => (pe_call (ok_is_field T) hr rfl T.g_is_field T.F_is_field.kp T.b_is_field .nil passL (pa_cons (pv 7) (pa_cons (pv 2) pa_nil))))) pa_nil)))) (pss_one (ps_ret pe_non)) pss_nil)
    (pss_cons (ps_set (i := 8) sc_make_kind.nd rfl (Or.inl rfl) (pe_make T.mk_Kind (ok_Kind_init T) (hr.mono (by decide)) rfl T.g_Kind T.b_Kind_init .nil passL (pa_cons (pv 0) (pa_cons (pv 1) pa_nil))))
    (pss_cons (ps_setLc (i := 9) (own := [("field", 7)]) (g := gName 7) (tt := tYes) rfl sc_make_kind.nd rfl rfl (sw_true rfl rfl rfl (by decide +kernel)) (pi_tup (pe_fld (pv 8) rfl)) (blkOk_by (own := [("field", 7)]) (N := ["row", "known", "targets", "name", "bases", "is_abstract", "own", "field", "kind", "names"]) (sc := defScope s_make_kind) (by decide +kernel)) (fun _ _ _ _ _ => pg_name (i := 7) sc_make_kind.nd rfl (Or.inl rfl)) (fun _ _ _ _ _ => pts_nil) (fun _ _ _ _ _ => (pe_ix (ix_tup : IxR _ (rIxT K)) (pv 7) pe_int (fun _ _ => rfl))))
    (pss_cons (ps_if (PW.pt (pw_or (pt_cmpR op_gt (pe_callB c_len (by rfl) T.n_len PySem.boot_len (pa_cons (pv 9) pa_nil)) (ClX.pe_cval (pe_glob (v := .ref ad.Schema) rfl T.g_Schema rfl)) (nomark _)) (pw_or1 (pt_cmpR op_ne (pe_lenSetS (by rfl) T.n_len (by rfl) T.n_set (pv 9)) (pe_callB c_len (by rfl) T.n_len PySem.boot_len (pa_cons (pv 9) pa_nil)) (nomark _))))) (pss_one (ps_ret pe_non)) pss_nil)
    (pss_one (ps_ret (pv 8))))))))))), ?_⟩
  rw [show L2.start ["row", "known", "targets", "name", "bases", "is_abstract", "own", "field", "kind", "names"] [V.ref ra, V.ref d, V.ref Ta] = [some (V.ref ra), some (V.ref d), some (V.ref Ta), none, none, none, none, none, none, none] from rfl]
  have okr := hok.last
  have okp := hok.init
  have lnm := kindName_len okr.nm
  have cl := T.ow_Kind.cl
  have f6 := T.no_Kind_fields
  obtain ⟨mc, uF, cr, cv⟩ := T.cr_Schema_FIELDS
  walk_at "w_go"
  refine r_isi (.base (.tup era)) rfl ?_
  walk_at "w_go"
  refine iteF' (by rw [Bool.not_eq_false']; exact decide_eq_true rfl) ?_
  walk_at "w_go"
  refine ⟨.str r.name, true, rfl, .inl ⟨_, rfl, by rw [PySem.sizeLine_eq]; omega, okr.nm.symm⟩, fun H1 s1 => ?_⟩
  have ed1 := s1 _ _ hkn.at_
  walk_at "w_go"
  refine ⟨d, _, rfl, DGet.k (k := .inr r.name) ed1, ?_⟩
  rw [known_none hkn okr.fresh, Option.isSome_none]
  walk_at "w_go"
  refine ⟨r.bases, _, d, kvs, rfl, ⟨ba, rfl, s1 _ _ eba⟩, ed1, okr.blen, okr.bnd, fun x hx => ⟨okp.kn (okr.bsub x hx), by
    obtain ⟨_, v, _, _, e, _⟩ := known_some hkn (okr.bsub x hx)
    rw [e]
    rfl⟩, fun H2 s2 => ?_⟩
  have s12 := s1.trans s2
  clear s1 s2 ed1
  have ea2 := s12 _ _ eoa
  walk_at "w_go"
  refine r_isi (.base (.bl _)) rfl ?_
  walk_at "w_go"
  refine r_isi (.base (.tup ea2)) rfl ?_
  walk_at "w_go"
  refine r_itK (.of ea2) ?_
  have how2 := hown.mono fun _ _ z => z.tx (tx_same s12)
  have eT2 := s12 _ _ eT
  have hol : r.own.length ≤ 4 := by
    have := own_len hok r.name
    rwa [own_new okr.fresh] at this
  refine r_lcW walk_tup r.own how2.len (fun _ => true) (fun a y _ => y = V.bl true) (fun _ _ _ _ h _ => h) (fun _ s => .of (s _ _ ea2)) (by rw [PySem.sizeLine_eq, ← how2.len]; omega) (fun D j f y Hi Hj acc Kt Kf hD ha sI eD yy kt kf => ?_) (fun q ys H3 n3 s3 e3 hr3 => ?_)
  · obtain ⟨rfl, hx⟩ := yy
    obtain ⟨y', hy', hf⟩ := how2.left ha
    rw [hx] at hy'
    cases hy'
    have fo := okr.own f (List.mem_of_getElem? ha)
    refine ⟨wipe_set1, ?_⟩
    walk_at "w_go"
    refine ⟨f, _, Ta, all, rfl, hf.tx (tx_same sI), sI _ _ eT2, hal, fo, hka _ fo.2.2, fun H5 s5 => ?_⟩
    exact kt rfl _ _ s5 rfl
  · have hys := all2_map hr3
    rw [List.filter_eq_self.mpr (fun _ _ => rfl)] at hys
    walk_at "w_go"
    refine r_allK (bs := r.own.map fun _ => true) (.of (by rw [e3, hys, List.map_map]; rfl)) ?_
    refine ⟨_, rfl, ?_⟩
    refine iteF' (by simp) ?_
    have s3' := s12.trans s3
    clear s3 s12 ea2 hys hr3 e3 n3
    walk_at "w_go"
    rename_i x dx H4 n4 s4 e4
    have nx : H x = none := s3'.free n4
    refine ⟨x, dx, r, pre, all, _, d, kvs, rfl, e4, hra0.tx (tx_same (s3'.trans s4)), hkn.same (s3'.trans s4), hok, hpl, fun H5 b5 k5 => ?_⟩
    have s5 : Same H H5 := same_but nx (s3'.trans s4) b5
    have kQ5 := fun (H' : Hp) (s : Same H5 H') => kQ x H' nx (s5.trans s) (k5.same s)
    obtain ⟨_, kdx, bv', ov', la, fa, fvs, e, kin⟩ := k5
    cases e
    have ex5 := kin.at_
    have ef5 := kin.flds
    have hf5 := kin.f4
    have hfl := okr.flen
    have hfn := okr.fnd
    generalize fieldsF (pre ++ [r]) r.name = fl at hf5 hfl hfn
    have hfvl := hf5.len
    clear n4 s4 e4 s3' b5 kin
    walk_at "w_go"
    refine r_itK (.of ef5) ?_
    refine r_lcW walk_tup fl hfvl (fun _ => true) (fun a y _ => y = V.str a.1) (fun _ _ _ _ h _ => h) (fun _ s => .of (s _ _ ef5)) (by rw [PySem.sizeLine_eq]; omega) (fun D j f y Hi Hj acc Kt Kf hD ha sI eD yy kt kf => ?_) (fun q ys H3 n3 s3 e3 hr3 => ?_)
    · obtain ⟨rfl, hx⟩ := yy
      obtain ⟨y', hy', hf⟩ := hf5.left ha
      rw [hx] at hy'
      cases hy'
      obtain ⟨fa', rfl, ef⟩ := hf.tx (tx_same sI)
      refine ⟨wipe_set1, ?_⟩
      walk_at "w_go"
      exact kt rfl _ _ (Same.refl _) rfl
    · have hys := all2_map hr3
      rw [List.filter_eq_self.mpr (fun _ _ => rfl)] at hys
      have hys2 : ys = (fl.map (·.1)).map V.str := by rw [hys, List.map_map]; rfl
      subst hys2
      have hnl : (fl.map (·.1)).length ≤ 4 := by rw [List.length_map]; exact hfl
      walk_at "w_go"
      refine iteF' (decide_eq_false (by rw [List.length_map]; omega)) ?_
      walk_at "w_go"
      refine ⟨q, _, rfl, .inl (.of e3), by omega, ?_⟩
      rw [nub_nodup hfn]
      walk_at "w_go"
      refine iteF' (by simp) ?_
      walk_at "w_go"
      exact kQ5 _ s3
end
end Wm
namespace Wm
open PySem L2

section
variable {P : Program} {w : World} {K : PySem.W.Frag} {mg : Str → Option Value} {base : Heap} {ad : Ad}
theorem ok_Schema_init (T : Txt P K mg ad) : FnOk P w K mg base (L2.CX P w) 6 ad.Schema_init ad.fd_Schema_init ["self", "rows"] (spSInit ad.Kind ad.Schema) := by
  refine T.F_Schema_init.okX sc_Schema_init (fun vs H Q E h => ?_) (fun cdv A outer s H vs Q E hr h => ?_)
  · obtain ⟨a, dx, L, rows, rfl, _⟩ := h
    rfl
  obtain ⟨a, dx, L, rows, rfl, ea, ⟨rvs, eL, hrows⟩, hsch, kQ⟩ := h
  obtain ⟨mc, uM, cr, cv⟩ := T.cr_Schema_MOST
  refine ⟨_, (pss_cons (ps_if (PW.pt (pw_or (pt_not (pt_val (pe_callB call_isiT (by rfl) T.n_isinstance (by decide +kernel) (pa_cons (pv 1) (pa_cons (pe_tup (pa_cons (pe_bltn (v := .ty "list") (by rfl) T.n_list (by decide +kernel) rfl) (pa_cons (pe_bltn (v := .ty "tuple") (by rfl) T.n_tuple (by decide +kernel) rfl) pa_nil))) pa_nil))))) (pw_or1 (pt_not (pt_chain op_le op_le pe_int (pe_callB c_len (by rfl) T.n_len PySem.boot_len (pa_cons (pv 1) pa_nil)) (ClX.pe_cval (pe_glob (v := .ref ad.Schema) rfl T.g_Schema rfl))))))) (pss_one (ps_raiseEr rfl T.er_BadSchema hr (takes_of rfl rfl rfl rfl) T.g_BadSchema (pa_cons (pe_un un_neg pe_int) pa_nil))) pss_nil)
    (pss_cons (ps_setLc (i := 2) (own := [("row", 3)]) (g := gName 3) rfl sc_Schema_init.nd rfl rfl (sw_true rfl rfl rfl (by decide +kernel)) (pi_list (pv 1)) (blkOk_by (own := [("row", 3)]) (N := ["self", "rows", "targets", "row", "known", "at", "kind", "name"]) (sc := defScope s_Schema_init) (by decide +kernel)) (fun _ _ _ _ _ => pg_name (i := 3) sc_Schema_init.nd rfl (Or.inl rfl)) (fun _ _ _ _ _ => (pts_one (PW.pt (pw_and (pt_val (pe_callB (call_isi : CallR _ (.builtin "isinstance") (rIsi K)) (by rfl) T.n_isinstance (by decide +kernel) (pa_cons (pv 3) (pa_cons (pe_bltn (v := .ty "tuple") (by rfl) T.n_tuple (by decide +kernel) rfl) pa_nil)))) (pw_and (pt_cmpR op_eq (pe_callB (c_len : CallR _ (.builtin "len") (rLen K)) (by rfl) T.n_len PySem.boot_len (pa_cons (pv 3) pa_nil)) pe_int (nomark _)) (pw_and1 (pt_val (pe_call (ok_is_kind_name T) (hr.mono (by decide)) rfl T.g_is_kind_name T.F_is_kind_name.kp T.b_is_kind_name .nil passL (pa_cons (pe_ix (ix_tup : IxR _ (rIxT K)) (pv 3) pe_int (fun _ _ => rfl)) pa_nil))))))))) (fun _ _ _ _ _ => (pe_ix (ix_tup : IxR _ (rIxT K)) (pv 3) pe_int (fun _ _ => rfl))))
    (pss_cons (ps_set (i := 4) sc_Schema_init.nd rfl (Or.inr rfl) pe_dnewK)
    (pss_cons (ps_for (passes_of rfl) rfl (pi_enum (by rfl) T.n_enumerate (pa_cons (pv 1) pa_nil)) (pg_tup rfl (pgs_cons (pg_name (i := 5) sc_Schema_init.nd rfl (Or.inl rfl)) (pgs_cons (pg_name (i := 3) sc_Schema_init.nd rfl (Or.inl rfl)) pgs_nil))) (pss_cons (ps_set (i := 6) sc_Schema_init.nd rfl (Or.inl rfl) (pe_call (ok_make_kind T) hr rfl T.g_make_kind T.F_make_kind.kp T.b_make_kind .nil passL (pa_cons (pv 3) (pa_cons (pv 4) (pa_cons (pv 2) pa_nil)))))
    (pss_cons (ps_if (pt_cmpR op_isNn (pv 6) pe_non (nomark _)) (pss_one (ps_raiseEr rfl T.er_BadSchema hr (takes_of rfl rfl rfl rfl) T.g_BadSchema (pa_cons (pv 5) pa_nil))) pss_nil)
    (pss_one (ps_dput (hu_of hr) (pv 4) (pe_fld (pv 6) rfl) (pv 6) rfl)))))
    (pss_cons (ps_if (pt_val (pe_lock (pe_callB (cr_all rfl) (by rfl) T.n_all (by decide +kernel) (pa_cons (pe_lc (own := [("name", 7)]) (g := gName 7) (tt := tYes) rfl sc_Schema_init.nd (pi_keys (pv 4)) (blkOk_by (own := [("name", 7)]) (N := ["self", "rows", "targets", "row", "known", "at", "kind", "name"]) (sc := defScope s_Schema_init) (by decide +kernel)) (fun _ _ _ _ _ => pg_name (i := 7) sc_Schema_init.nd rfl (Or.inl rfl)) (fun _ _ _ _ _ => pts_nil) (fun _ _ _ _ _ => (pe_fld (pe_dget (hu_of hr) (pv 4) (pv 7) (fun _ _ => rfl)) rfl : PE _ _ (tFld K _ _)))) pa_nil)))) (pss_one (ps_raiseEr rfl T.er_BadSchema hr (takes_of rfl rfl rfl rfl) T.g_BadSchema (pa_cons (pe_callB c_len (by rfl) T.n_len PySem.boot_len (pa_cons (pv 1) pa_nil)) pa_nil))) pss_nil)
    (pss_cons (ps_fld (pv 0) (pe_callTy c_tuple (by rfl) T.n_tuple (by decide +kernel) (pa_cons (pv 1) pa_nil)) rfl)
    (pss_cons (ps_fld (pv 0) (pe_callTy (c_tupD rfl) (by rfl) T.n_tuple (by decide +kernel) (pa_cons (pv 4) pa_nil)) rfl)
    (pss_one (ps_fld (pv 0) (pv 4) rfl))))))))), ?_⟩
  rw [show L2.start ["self", "rows", "targets", "row", "known", "at", "kind", "name"] [V.ref a, V.ref L] = [some (V.ref a), some (V.ref L), none, none, none, none, none, none] from rfl]
  have cl := T.ow_Schema.cl
  have clK := T.ow_Kind.cl
  have f1 := T.no_Schema_rows
  have f2 := T.no_Schema_names
  have f3 := T.no_Schema_known
  have f4 := T.no_Kind_is_abstract
  have f5 := T.no_Kind_name
  have hok := hsch.ok
  have hpos := hsch.pos
  have hfew := hsch.few
  have hlen := hrows.len
  walk_at "w_go"
  rename_i q1 H1 n1 s1 e1
  have eL1 := s1 _ _ eL
  refine r_isiTT (x := V.non) e1 eL1 ?_
  walk_at "w_go"
  refine iteT' (decide_eq_true (by omega)) ?_
  walk_at "w_go"
  refine iteF' (by rw [Bool.not_eq_false']; exact decide_eq_true (by omega)) ?_
  walk_at "w_go"
  refine r_ilK (.of eL1) ?_
  refine r_lcW walk_list rows hlen (fun _ => true) (fun r y _ => y = V.str r.name) (fun _ _ _ _ h _ => h) (fun _ s => .of (s _ _ eL1)) (by rw [PySem.sizeLine_eq]; omega) (fun D j r y Hi Hj acc Kt Kf hD ha sI eD yy kt kf => ?_) (fun q2 ys H2 n2 s2 e2 hr2 => ?_)
  · obtain ⟨rfl, hx⟩ := yy
    obtain ⟨y', hy', hf⟩ := hrows.left ha
    rw [hx] at hy'
    cases hy'
    obtain ⟨ra, bv, ov, rfl, era, hbs, how⟩ := hf.tx (tx_same (s1.trans sI))
    have knm := hok.kn (n := r.name) (List.mem_map_of_mem (List.mem_of_getElem? ha))
    have lnm := kindName_len knm
    refine ⟨wipe_set1, ?_⟩
    walk_at "w_go"
    refine r_isi (.base (.tup era)) rfl ?_
    walk_at "w_go"
    refine iteT' (decide_eq_true rfl) ?_
    walk_at "w_go"
    refine ⟨.str r.name, true, rfl, .inl ⟨_, rfl, by rw [PySem.sizeLine_eq]; omega, knm.symm⟩, fun H3 s3 => ?_⟩
    walk_at "w_go"
    exact kt rfl _ _ s3 rfl
  · have hys := all2_map hr2
    rw [List.filter_eq_self.mpr (fun _ _ => rfl)] at hys
    have hys2 : ys = (names rows).map V.str := by
      rw [hys]
      unfold names
      rw [List.map_map]
      rfl
    subst hys2
    have s12 := s1.trans s2
    clear hr2 hys s1 n1 e1 eL1 n2 s2
    walk_at "w_go"
    rename_i D H3 n3 s3 e3
    have nD : H D = none := s12.free n3
    have s13 := s12.trans s3
    have eq3 := s3 _ _ e2
    clear s12 n3 s3 e2
    have nmD : q2 ≠ D := ne_of eq3 e3 (by intro z; cases z)
    refine ⟨L, rvs, rfl, .of (s13 _ _ eL), ?_⟩
    refine for_it (walk_enum (K := K) (a := L) (xs := rvs)) (fun i σ H' => ∃ (v3 v5 v6 : Option V) (kvs : List (Key × V)), σ = [some (.ref a), some (.ref L), some (.ref q2), v3, some (.ref D), v5, v6, none] ∧ Same H H' ∧ H' q2 = some (.lst ((names rows).map V.str)) ∧ KnownAt ad.Kind H' (rows.take i) D kvs) ⟨_, _, _, _, rfl, s13, eq3, e3, rfl, fun r hr => by simp at hr⟩ ?_ ?_ ?_
    · rintro i σ H' _ ⟨v3, v5, v6, kvs, rfl, s4, _⟩
      exact .of (s4 _ _ eL)
    · rintro i x σ H4 H5 hi ⟨v3, v5, v6, kvs, rfl, s4, eq4, hkn⟩ ⟨Tp, x1, y1, rfl, nT, rfl, ex, ey⟩
      cases ex
      have ey2 : rvs[i]? = some y1 := ey
      clear ey
      obtain ⟨r, hri, hra⟩ := hrows.right ey2
      have sT : Same H4 (upd H4 Tp (.tup [.int (i : Nat), y1])) := same_new nT
      have eT : (upd H4 Tp (.tup [.int (i : Nat), y1])) Tp = some (.tup [.int (i : Nat), y1]) := upd_same
      generalize upd H4 Tp (.tup [.int (i : Nat), y1]) = Hj at sT eT
      have s5 := s4.trans sT
      have hkn5 := hkn.same sT
      have eq5 := sT _ _ eq4
      have ok1 : RowsOk (names rows) (rows.take i ++ [r]) := by
        have := hok.take (i + 1)
        rwa [take_more hri] at this
      have hnl : (names rows).length ≤ 6 := by unfold names; rw [List.length_map]; exact hfew
      refine r_gtupK eT rfl ?_
      walk_at "w_go"
      refine ⟨r, rows.take i, names rows, _, D, q2, kvs, rfl, hra.tx (tx_same s5), hkn5, eq5, ok1, by rw [List.length_take]; omega, hnl, fun x hx => hok.kn hx, fun ka H6 nk s6 k6 => ?_⟩
      have hkn6 := hkn5.same s6
      have hkd := hkn6.at_
      have hne := known_none hkn6 ok1.last.fresh
      have kadd := hkn6.add ok1 k6
      have s56 := s5.trans s6
      have eq6 := s6 _ _ eq5
      have hkl : kvs.length ≤ 6 := by
        have := congrArg List.length hkn6.keys
        unfold names at this
        simp only [List.length_map, List.length_take] at this
        omega
      obtain ⟨_, kdx, bv', ov', la, fa, fvs, e, kin⟩ := k6
      cases e
      have ek6 := kin.at_
      walk_at "w_go"
      refine iteF' (decide_eq_false (by intro z; cases z)) ?_
      walk_at "w_go"
      refine r_dputK hkd (putK_new _ hne) (by rw [PySem.sizeLine_eq]; omega) ?_
      refine ⟨_, _, _, kvs ++ [(.inr r.name, .ref ka)], rfl, same_put s56 nD, (upd_ne nmD).trans eq6, ?_⟩
      rw [take_more hri]
      exact kadd
    · rintro σ H4 ⟨v3, v5, v6, kvs, rfl, s4, eq4, hkn⟩
      rw [← hlen, List.take_length] at hkn
      have hkl : kvs.length = rows.length := by
        have := congrArg List.length hkn.keys
        unfold names at this
        simpa only [List.length_map] using this
      have hkv := keys_v hkn
      walk_at "w_go"
      refine r_lockE hkn.at_ (fun od => ?_)
      have efz : (upd H4 D (.frz od (.dK kvs))) D = some (.frz od (.dK kvs)) := upd_same
      walk_at "w_go"
      refine ⟨D, od, rfl, .inl ⟨kvs, efz, ?_⟩⟩
      refine r_lcW walk_keys rows hkl.symm (fun _ => true) (fun r y _ => y = V.bl r.abs) (fun _ _ _ _ h _ => h) (fun _ s => s _ _ efz) (by rw [PySem.sizeLine_eq]; omega) (fun D2 j r y Hi Hj acc Kt Kf hD ha sI eD yy kt kf => ?_) (fun q5 ys H5 n5 s5 e5 hr5 => ?_)
      · obtain ⟨rfl, k, v, hk, rfl⟩ := yy
        cases key_at hkn hk ha
        obtain ⟨v2, hv2, a2, kdx, bv', ov', la, fa, fvs, rfl, kin⟩ := hkn.knd r (List.mem_of_getElem? ha)
        have na2 : a2 ≠ D := ne_of kin.at_ hkn.at_ (by intro z; cases z)
        have ek := sI _ _ ((upd_ne na2).trans kin.at_)
        have ef := sI _ _ efz
        show gName 7 (V.str r.name) _ _ _
        refine ⟨wipe_set1, ?_⟩
        walk_at "w_go"
        refine r_dgetF ef hv2 ?_
        refine r_fldK ek clK f4 rfl ?_
        exact kt rfl _ _ (Same.refl _) rfl
      · have hys := all2_map hr5
        rw [List.filter_eq_self.mpr (fun _ _ => rfl)] at hys
        walk_at "w_go"
        refine r_allK (bs := rows.map (·.abs)) (.of (by rw [e5, hys, List.map_map]; rfl)) ?_
        rw [all_abs hsch.conc]
        refine ⟨s5 _ _ efz, false, rfl, ?_⟩
        have s45 : Same H4 (upd H5 D (.dK kvs)) := same_lock hkn.at_ s5
        generalize upd H5 D (.dK kvs) = H6 at s45
        have s6 := s4.trans s45
        have hkn6 := hkn.same s45
        have hkd6 := hkn6.at_
        clear s45 hkn s4 eq4 hys hr5 e5 s5 n5 efz
        walk_at "w_go"
        refine r_tupL (.of (s6 _ _ eL)) (fun q7 n7 => ?_)
        have s7 := same_new (o := .tup rvs) n7
        have e7 : (upd H6 q7 (.tup rvs)) q7 = _ := upd_same
        generalize upd H6 q7 (.tup rvs) = H7 at s7 e7
        have s67 := s6.trans s7
        have ea7 := s67 _ _ ea
        have n7H := s6.free n7
        have hkn7 := hkn6.same s7
        have naD : a ≠ D := fun z => by
          rw [z, nD] at ea
          cases ea
        have n7a : q7 ≠ a := fun z => by
          rw [z, ea] at n7H
          cases n7H
        have b7 : But a H (upd H7 a (.ins ad.Schema dx (putF "rows" (V.ref q7) []))) := ((But.refl a H).same s67).self
        have t7 : Tx H7 (upd H7 a (.ins ad.Schema dx (putF "rows" (V.ref q7) []))) := tx_put (q := a) fun xs z => by
          rw [ea7] at z
          cases z
        have hkn8 := hkn7.butI ea7 ((But.refl a H7).self (o := .ins ad.Schema dx (putF "rows" (V.ref q7) [])))
        have ea8 : (upd H7 a (.ins ad.Schema dx (putF "rows" (V.ref q7) []))) a = some (.ins ad.Schema dx [("rows", V.ref q7)]) := upd_same
        have e78 := t7 _ _ e7
        walk_at "w_go"
        generalize upd H7 a (.ins ad.Schema dx (putF "rows" (V.ref q7) [])) = H8 at b7 hkn8 ea8 e78 ⊢
        refine r_tupD hkn8.at_ (fun q9 H9 n9 s9 e9 => ?_)
        rw [keys_v hkn8] at e9
        have n9H : H q9 = none := b7.free ea8 n9
        have n9a : q9 ≠ a := fun z => by
          rw [z, ea] at n9H
          cases n9H
        have b9 := b7.same s9
        have ea9 := s9 _ _ ea8
        have e79 := s9 _ _ e78
        have hkn9 := hkn8.same s9
        walk_at "w_go"
        have bF : But a H9 (upd (upd H9 a (.ins ad.Schema dx (putF "names" (V.ref q9) [("rows", V.ref q7)]))) a (.ins ad.Schema dx (putF "known" (V.ref D) (putF "names" (V.ref q9) [("rows", V.ref q7)])))) := ((But.refl a H9).self).self
        have hknF := hkn9.butF (by simp) ea9 bF
        have tF := bF.tx ea9
        have eaF : (upd (upd H9 a (.ins ad.Schema dx (putF "names" (V.ref q9) [("rows", V.ref q7)]))) a (.ins ad.Schema dx (putF "known" (V.ref D) (putF "names" (V.ref q9) [("rows", V.ref q7)])))) a = some (.ins ad.Schema dx (sfs q7 q9 D)) := upd_same
        refine kQ _ (b9.self.self) ⟨dx, q7, q9, D, rvs, kvs, eaF, tF _ _ e79, ?_, tF _ _ e9, hknF⟩ ?_
        · exact hrows.mono fun _ _ z => z.tx ((b9.self.self).tx ea)
        · intro dx' rv nv dv rvs' kvs' hin
          have q := hin.at_
          rw [eaF] at q
          have q2 := (HO.ins.inj (Option.some.inj q)).2.2
          unfold sfs at q2
          cases q2
          exact nD
end
end Wm
namespace Wm
open PySem L2

section
variable {P : Program} {w : World} {K : PySem.W.Frag} {mg : Str → Option Value} {base : Heap} {ad : Ad}
theorem ok_Schema_getitem (T : Txt P K mg ad) : FnOk P w K mg base (L2.CX P w) 4 ad.Schema_getitem ad.fd_Schema_getitem ["self", "name"] (spGet ad.Kind ad.Schema ad.NoKind) := by
  refine T.F_Schema_getitem.okX sc_Schema_getitem (fun vs H Q E h => ?_) (fun cdv A outer s H vs Q E hr h => ?_)
  · obtain ⟨S, rows, v, b, rfl, _⟩ := h
    rfl
  obtain ⟨S, rows, v, b, rfl, ⟨dx, rv, nv, dv, rvs, kvs, hin⟩, hok, hkv, kS, kE⟩ := h
  refine ⟨_, (pss_cons (ps_if (PW.pt (pw_or (pt_not (pt_val (pe_call (ok_is_kind_name T) hr rfl T.g_is_kind_name T.F_is_kind_name.kp T.b_is_kind_name .nil passL (pa_cons (pv 1) pa_nil)))) (pw_or1 (pt_cmpR op_notIn_seq (pv 1) (pe_fld (pv 0) rfl) (by rfl))))) (pss_one (ps_raiseEr rfl T.er_NoKind hr (takes_of rfl rfl rfl rfl) T.g_NoKind (pa_cons (pv 1) pa_nil))) pss_nil)
    (pss_one (ps_ret (pe_dget (hu_of hr) (pe_fld (pv 0) rfl) (pv 1) (fun _ _ => rfl))))), ?_⟩
  rw [show L2.start ["self", "name"] [V.ref S, v] = [some (V.ref S), some (v)] from rfl]
  have cl := T.ow_Schema.cl
  have f2 := T.no_Schema_names
  have f3 := T.no_Schema_known
  walk_at "w_go"
  refine ⟨v, b, rfl, hkv, fun H1 s1 => ?_⟩
  have eS := s1 _ _ hin.at_
  have eN := s1 _ _ hin.nms
  have kn1 := hin.kn.same s1
  have ed := kn1.at_
  walk_at "w_go"
  cases b
  · walk_at "w_go"
    rename_i d H2 n2 s2 e2
    refine kE (fun n hv hn => ?_) d H2 (s1.trans s2) (s1.free n2) e2
    subst hv
    rcases hkv with ⟨x, hx, _, hb⟩ | ⟨_, h, _⟩
    · cases hx
      rw [hok.ok.kn hn] at hb
      cases hb
    · exact h _ rfl
  · rcases hkv with ⟨x, rfl, _, hb⟩ | ⟨_, _, h⟩
    · walk_at "w_go"
      refine r_inSN (.inr (.of eN)) ?_
      walk_at "w_go"
      by_cases hx : x ∈ names rows
      · refine iteF' (by simp [hx]) ?_
        obtain ⟨r, v0, hr0, rfl, hv0, k0⟩ := known_some kn1 hx
        walk_at "w_go"
        refine r_dgetK ed hv0 ?_
        exact kS r v0 H1 rfl hr0 s1 k0
      · refine iteT' (by simp [hx]) ?_
        walk_at "w_go"
        rename_i d H2 n2 s2 e2
        exact kE (fun n hv hn => hx (by cases hv; exact hn)) d H2 (s1.trans s2) (s1.free n2) e2
    · cases h
theorem ok_Schema_is_under (T : Txt P K mg ad) : FnOk P w K mg base (L2.CX P w) 6 ad.Schema_is_under ad.fd_Schema_is_under ["self", "name", "other"] (spIsU ad.Kind ad.Schema ad.NoKind) := by
  refine T.F_Schema_is_under.okX sc_Schema_is_under (fun vs H Q E h => ?_) (fun cdv A outer s H vs Q E hr h => ?_)
  · obtain ⟨S, rows, v, w, b, c, rfl, _⟩ := h
    rfl
  obtain ⟨S, rows, v, w, b, c, rfl, hS, hok, hkv, hkw, kS, kE1, kE2⟩ := h
  have hS0 := hS
  obtain ⟨dx, rv, nv, dv, rvs, kvs, hin⟩ := hS0
  refine ⟨_, (pss_cons (ps_set (i := 3) sc_Schema_is_under.nd rfl (Or.inl rfl) (pe_ixOwn (ok_Schema_getitem T) hr T.me_Schema_getitem (fun_in T.F_Schema_getitem) T.b_Schema_getitem (passes_call (takes_of rfl rfl rfl rfl) (fun _ _ _ _ h => h)) (pv 0) (pv 1) (fun _ _ => rfl)))
    (pss_cons (ps_set (i := 4) sc_Schema_is_under.nd rfl (Or.inl rfl) (pe_ixOwn (ok_Schema_getitem T) hr T.me_Schema_getitem (fun_in T.F_Schema_getitem) T.b_Schema_getitem (passes_call (takes_of rfl rfl rfl rfl) (fun _ _ _ _ h => h)) (pv 0) (pv 2) (fun _ _ => rfl)))
    (pss_one (ps_ret (pe_cmpR op_in_seq (pe_fld (pv 4) rfl) (pe_fld (pv 3) rfl) (by rfl)))))), ?_⟩
  rw [show L2.start ["self", "name", "other", "below", "above"] [V.ref S, v, w] = [some (V.ref S), some (v), some (w), none, none] from rfl]
  have cl := T.ow_Kind.cl
  have f1 := T.no_Kind_name
  have f2 := T.no_Kind_line
  walk_at "w_go"
  refine r_ixOwn hin.at_ ⟨S, rows, v, b, rfl, hS, hok, hkv, fun r kv H1 hv hr1 s1 k1 => ?_, kE1⟩
  have nb : ¬ badK rows v := fun z => z _ hv (List.mem_map_of_mem hr1)
  walk_at "w_go"
  refine r_ixOwn (s1 _ _ hin.at_) ⟨S, rows, w, c, rfl, hS.same s1, hok, hkw.same s1, fun r2 kv2 H2 hw hr2 s2 k2 => ?_, fun z => (kE2 nb z).same s1⟩
  have k1' := k1.same s2
  obtain ⟨a1, kdx1, bv1, ov1, la1, fa1, fvs1, rfl, kin1⟩ := k1'
  obtain ⟨a2, kdx2, bv2, ov2, la2, fa2, fvs2, rfl, kin2⟩ := k2
  have g1 := kin1.at_
  have g2 := kin2.at_
  walk_at "w_go"
  refine r_inSP (.inr (.of kin1.line)) ?_
  exact kS _ _ _ hv hw (List.mem_map_of_mem hr1) (List.mem_map_of_mem hr2) (s1.trans s2)
end
end Wm
namespace Wm
open PySem L2

section
variable {P : Program} {w : World} {K : PySem.W.Frag} {mg : Str → Option Value} {base : Heap} {ad : Ad}
theorem ok_is_integer (T : Txt P K mg ad) : FnOk P w K mg base (L2.CX P w) 2 ad.is_integer ad.fd_is_integer ["thing"] spIsInt := by
  refine T.F_is_integer.okX sc_is_integer (fun vs H Q E h => ?_) (fun cdv A outer s H vs Q E hr h => ?_)
  · obtain ⟨v, b, rfl, _⟩ := h
    rfl
  obtain ⟨v, b, rfl, hv, q⟩ := h
  refine ⟨_, (pss_one (ps_ret (pe_and (pe_callB call_isi (by rfl) T.n_isinstance (by decide +kernel) (pa_cons (pv 0) (pa_cons (pe_bltn (v := .ty "int") (by rfl) T.n_int (by decide +kernel) rfl) pa_nil))) (pe_one (pe_not (pe_callB call_isi (by rfl) T.n_isinstance (by decide +kernel) (pa_cons (pv 0) (pa_cons (pe_bltn (v := .ty "bool") (by rfl) T.n_bool (by decide +kernel) rfl) pa_nil)))))))), ?_⟩
  rw [show L2.start ["thing"] [v] = [some (v)] from rfl]
  obtain ⟨ty, b1, c1, h1, h2, h3, h4⟩ := hv.kInt (K := K)
  walk_at "w_go"
  refine r_isi h1 h2 ?_
  walk_at "w_go"
  cases b1
  · refine iteF' rfl ?_
    cases h4
    exact q
  · refine iteT' rfl ?_
    walk_at "w_go"
    refine r_isi h1 h3 ?_
    walk_at "w_go"
    cases h4
    cases c1 <;> exact q
theorem ok_is_tag (T : Txt P K mg ad) : FnOk P w K mg base (L2.CX P w) 3 ad.is_tag ad.fd_is_tag ["thing"] spIsTag := by
  refine T.F_is_tag.okX sc_is_tag (fun vs H Q E h => ?_) (fun cdv A outer s H vs Q E hr h => ?_)
  · obtain ⟨v, b, rfl, _⟩ := h
    rfl
  obtain ⟨v, b, rfl, hv, q⟩ := h
  obtain ⟨uM, gMOST_TAG, rMOST_TAG⟩ := T.u_MOST_TAG
  refine ⟨_, (pss_one (ps_ret (pe_and (pe_call (ok_is_integer T) hr rfl T.g_is_integer T.F_is_integer.kp T.b_is_integer .nil passL (pa_cons (pv 0) pa_nil)) (pe_one (pe_chain op_le op_le (pe_un un_neg (pe_glob (v := .int 1000000000000000000000000000000) (by rfl) gMOST_TAG rMOST_TAG)) (pv 0) (pe_glob (v := .int 1000000000000000000000000000000) (by rfl) gMOST_TAG rMOST_TAG)))))), ?_⟩
  rw [show L2.start ["thing"] [v] = [some (v)] from rfl]
  walk_at "w_go"
  refine ⟨v, b, rfl, hv, ?_⟩
  walk_at "w_go"
  cases b
  · refine iteF' rfl ?_
    walk_at "w_go"
    refine q _ ⟨(fun z => by cases z), fun ⟨n, e, _⟩ => ?_⟩
    subst e
    rcases hv with ⟨m, _, h⟩ | ⟨_, h, _⟩
    · cases h
    · exact absurd rfl (h n)
  · refine iteT' rfl ?_
    rcases hv with ⟨n, rfl, _⟩ | ⟨_, _, h⟩
    · walk_at "w_go"
      by_cases h1 : -1000000000000000000000000000000 ≤ n
      · refine iteT' (decide_eq_true h1) ?_
        walk_at "w_go"
        refine q _ ⟨fun z => ⟨n, rfl, h1, of_decide_eq_true z⟩, fun ⟨m, e, _, h2⟩ => ?_⟩
        cases e
        exact decide_eq_true h2
      · refine iteF' (decide_eq_false h1) ?_
        refine q _ ⟨(fun z => by cases z), fun ⟨m, e, h2, _⟩ => ?_⟩
        cases e
        exact absurd h2 h1
    · cases h
theorem ok_is_concrete (T : Txt P K mg ad) : FnOk P w K mg base (L2.CX P w) 6 ad.is_concrete ad.fd_is_concrete ["schema", "thing"] (spConcr ad.Kind ad.Schema) := by
  refine T.F_is_concrete.okX sc_is_concrete (fun vs H Q E h => ?_) (fun cdv A outer s H vs Q E hr h => ?_)
  · obtain ⟨S, rows, v, b, rfl, _⟩ := h
    rfl
  obtain ⟨S, rows, v, b, rfl, hS, hok, hkv, q⟩ := h
  have hS0 := hS
  obtain ⟨dx, rv, nv, dv, rvs, kvs, hin⟩ := hS0
  refine ⟨_, (pss_one (ps_ret (pe_and (pe_call (ok_is_kind_name T) (hr.mono (by decide)) rfl T.g_is_kind_name T.F_is_kind_name.kp T.b_is_kind_name .nil passL (pa_cons (pv 1) pa_nil)) (pe_and (pe_cmpR op_in_seq (pv 1) (pe_fld (pv 0) rfl) (by rfl)) (pe_one (pe_not (pe_fld (pe_ixOwn (ok_Schema_getitem T) hr T.me_Schema_getitem (fun_in T.F_Schema_getitem) T.b_Schema_getitem passL (pv 0) (pv 1) (fun _ _ => rfl)) rfl))))))), ?_⟩
  rw [show L2.start ["schema", "thing"] [V.ref S, v] = [some (V.ref S), some (v)] from rfl]
  have cl := T.ow_Schema.cl
  have clK := T.ow_Kind.cl
  have f2 := T.no_Schema_names
  have f3 := T.no_Kind_is_abstract
  walk_at "w_go"
  refine ⟨v, b, rfl, hkv, fun H1 s1 => ?_⟩
  have eS := s1 _ _ hin.at_
  have eN := s1 _ _ hin.nms
  cases b
  · walk_at "w_go"
    refine q false H1 s1 ⟨(fun z => by cases z), fun ⟨x, e, hx⟩ => ?_⟩
    exact (kn_false hok hkv e (conc_names hx)).elim
  · rcases hkv with ⟨x, rfl, _, hb⟩ | ⟨_, _, h⟩
    · walk_at "w_go"
      refine r_inSP (.inr (.of eN)) ?_
      walk_at "w_go"
      by_cases hx : x ∈ names rows
      · refine iteT' (by simp [hx]) ?_
        walk_at "w_go"
        refine r_ixOwn eS ⟨S, rows, .str x, true, rfl, hS.same s1, hok, kn_name hok hx, fun r kv H2 hv hr1 s2 k2 => ?_, fun bad => absurd hx (bad x rfl)⟩
        cases hv
        obtain ⟨a1, kdx1, bv1, ov1, la1, fa1, fvs1, rfl, kin1⟩ := k2
        have g1 := kin1.at_
        walk_at "w_go"
        refine q _ H2 (s1.trans s2) ⟨fun z => ⟨_, rfl, (concF_iff hok hr1).mpr (by simpa using z)⟩, fun ⟨x, e, hx⟩ => ?_⟩
        cases e
        simp [(concF_iff hok hr1).mp ‹_›]
      · refine iteF' (by simp [hx]) ?_
        refine q _ H1 s1 ⟨(fun z => by cases z), fun ⟨y, e, hy⟩ => ?_⟩
        cases e
        exact absurd (conc_names hy) hx
    · cases h
theorem ok_is_member (T : Txt P K mg ad) : FnOk P w K mg base (L2.CX P w) 7 ad.is_member ad.fd_is_member ["schema", "kinds", "target", "number"] (spIsMem ad.Kind ad.Schema) := by
  refine T.F_is_member.okX sc_is_member (fun vs H Q E h => ?_) (fun cdv A outer s H vs Q E hr h => ?_)
  · obtain ⟨S, kL, rows, ks, t, v, b, rfl, _⟩ := h
    rfl
  obtain ⟨S, kL, rows, ks, t, v, b, rfl, hS, hok, ⟨eK, hks⟩, ht, hv, q⟩ := h
  refine ⟨_, (pss_cons (ps_if (PW.pt (pw_or (pt_not (pt_val (pe_call (ok_is_integer T) (hr.mono (by decide)) rfl T.g_is_integer T.F_is_integer.kp T.b_is_integer .nil passL (pa_cons (pv 3) pa_nil)))) (pw_or (pt_not (pt_chain op_le op_lt pe_int (pv 3) (pe_callB c_len (by rfl) T.n_len PySem.boot_len (pa_cons (pv 1) pa_nil)))) (pw_or1 (pt_cmpR op_isNn (pe_ix ix_list (pv 1) (pv 3) (fun _ _ => rfl)) pe_non (nomark _)))))) (pss_one (ps_ret pe_bl)) pss_nil)
    (pss_one (ps_ret (pe_meth (pv 0) T.ow_Schema.cl T.me_Schema_is_under (ok_Schema_is_under T) hr T.b_Schema_is_under .nil passL (pa_cons (pe_ix ix_list (pv 1) (pv 3) (fun _ _ => rfl)) (pa_cons (pv 2) pa_nil)))))), ?_⟩
  rw [show L2.start ["schema", "kinds", "target", "number"] [V.ref S, V.ref kL, V.str t, v] = [some (V.ref S), some (V.ref kL), some (V.str t), some (v)] from rfl]
  have hS0 := hS
  obtain ⟨dx, rv, nv, dv, rvs, kvs, hin⟩ := hS0
  have eS := hin.at_
  have cl := T.ow_Schema.cl
  walk_at "w_go"
  refine ⟨v, b, rfl, hv, ?_⟩
  cases b
  · walk_at "w_go"
    refine q false H (Same.refl _) ⟨(fun z => by cases z), fun ⟨n, e, _⟩ => ?_⟩
    subst e
    rcases hv with ⟨m, _, h⟩ | ⟨_, h, _⟩
    · cases h
    · exact absurd rfl (h n)
  · rcases hv with ⟨n, rfl, _⟩ | ⟨_, _, h⟩
    · have hno : (¬ (0 ≤ n ∧ n < (ks.length : Nat))) → ¬ memV rows ks t (.int n) := fun h ⟨m, e, hm⟩ => by
        cases e
        refine h ⟨by omega, ?_⟩
        have : m < ks.length := Nat.lt_of_not_le fun z => by
          unfold memB at hm
          rw [List.getElem?_eq_none z] at hm
          cases hm
        omega
      walk_at "w_go"
      by_cases h0 : 0 ≤ n
      · refine iteT' (decide_eq_true h0) ?_
        walk_at "w_go"
        obtain ⟨k, rfl⟩ := Int.eq_ofNat_of_zero_le h0
        by_cases h1 : k < ks.length
        · obtain ⟨o, ho⟩ : ∃ o, ks[k]? = some o := ⟨_, List.getElem?_eq_getElem h1⟩
          have hat : atI (ks.map okV) (k : Int) = some (okV o) := atI_nat (by rw [List.getElem?_map, ho]; rfl)
          refine iteF' (by simp; omega) ?_
          walk_at "w_go"
          refine r_ixLK eK hat ?_
          cases o with
          | none =>
            rw [show okV none = V.non from rfl]
            walk_at "w_go"
            refine q false H (Same.refl _) ⟨(fun z => by cases z), fun ⟨m, e, hm⟩ => ?_⟩
            have e' : m = k := by
              have := V.int.inj e
              omega
            subst e'
            unfold memB at hm
            rw [ho] at hm
            cases hm
          | some x =>
            have hx : x ∈ names rows := hks x (List.mem_of_getElem? ho)
            rw [show okV (some x) = V.str x from rfl]
            walk_at "w_go"
            refine iteF' (decide_eq_false (fun z => by cases z)) ?_
            walk_at "w_go"
            refine r_ixLK eK hat ?_
            rw [show okV (some x) = V.str x from rfl]
            walk_at "w_go"
            refine ⟨S, rows, .str x, .str t, true, true, rfl, hS, hok, kn_name hok hx, kn_name hok ht, fun n' m' H1 e1 e2 _ _ s1 => ?_, fun bad => absurd hx (bad x rfl), fun _ bad => absurd ht (bad t rfl)⟩
            cases e1
            cases e2
            have hmB : memB rows ks t k = decide (t ∈ lineF rows x) := by
              unfold memB
              rw [ho]
            refine q _ H1 s1 ⟨fun z => ⟨k, rfl, hmB.trans z⟩, fun ⟨m, e, hm⟩ => ?_⟩
            have e' : m = k := by
              have := V.int.inj e
              omega
            subst e'
            exact hmB.symm.trans hm
        · refine iteT' (by simp; omega) ?_
          walk_at "w_go"
          exact q false H (Same.refl _) ⟨(fun z => by cases z), fun z => absurd z (hno (by omega))⟩
      · refine iteF' (decide_eq_false h0) ?_
        walk_at "w_go"
        exact q false H (Same.refl _) ⟨(fun z => by cases z), fun z => absurd z (hno (by omega))⟩
    · cases h
end
end Wm
namespace Wm
open PySem L2

section
variable {P : Program} {w : World} {K : PySem.W.Frag} {mg : Str → Option Value} {base : Heap} {ad : Ad}
theorem ok_is_value (T : Txt P K mg ad) : FnOk P w K mg base (L2.CX P w) 8 ad.is_value ad.fd_is_value ["schema", "kinds", "mode", "target", "value"] (spIsVal ad.Kind ad.Schema) := by
  refine T.F_is_value.okX sc_is_value (fun vs H Q E h => ?_) (fun cdv A outer s H vs Q E hr h => ?_)
  · obtain ⟨S, kL, rows, ks, m, t, v, o, rfl, _⟩ := h
    rfl
  obtain ⟨S, kL, rows, ks, m, t, v, o, rfl, hS, hok, hK, ht, hv, q⟩ := h
  refine ⟨_, (pss_cons (ps_if (pt_cmpR op_eq (pv 2) pe_str (nomark _)) (pss_one (ps_ret (pe_or (pe_cmpR op_isNn (pv 4) pe_non (nomark _)) (pe_one (pe_call (ok_is_member T) hr rfl T.g_is_member T.F_is_member.kp T.b_is_member .nil passL (pa_cons (pv 0) (pa_cons (pv 1) (pa_cons (pv 3) (pa_cons (pv 4) pa_nil))))))))) pss_nil)
    (pss_cons (ps_if (pt_not (pt_val (pe_callB call_isiT (by rfl) T.n_isinstance (by decide +kernel) (pa_cons (pv 4) (pa_cons (pe_tup (pa_cons (pe_bltn (v := .ty "list") (by rfl) T.n_list (by decide +kernel) rfl) (pa_cons (pe_bltn (v := .ty "tuple") (by rfl) T.n_tuple (by decide +kernel) rfl) pa_nil))) pa_nil))))) (pss_one (ps_ret pe_bl)) pss_nil)
    (pss_one (ps_ret (pe_callB (cr_all rfl) (by rfl) T.n_all (by decide +kernel) (pa_cons (pe_lc (own := [("number", 5)]) (g := gName 5) (tt := tYes) rfl sc_is_value.nd (pi_or (pi_list (pv 4)) (pi_tup (pv 4))) (blkOk_by (own := [("number", 5)]) (N := ["schema", "kinds", "mode", "target", "value", "number"]) (sc := defScope s_is_value) (by decide +kernel)) (fun _ _ _ _ _ => pg_name (i := 5) sc_is_value.nd rfl (Or.inl rfl)) (fun _ _ _ _ _ => pts_nil) (fun _ _ _ _ _ => (pe_call (ok_is_member T) hr rfl T.g_is_member T.F_is_member.kp T.b_is_member .nil passL (pa_cons (pv 0) (pa_cons (pv 1) (pa_cons (pv 3) (pa_cons (pv 5) pa_nil))))))) pa_nil)))))), ?_⟩
  rw [show L2.start ["schema", "kinds", "mode", "target", "value", "number"] [V.ref S, V.ref kL, V.str m, V.str t, v] = [some (V.ref S), some (V.ref kL), some (V.str m), some (V.str t), some (v), none] from rfl]
  by_cases hm : m = "one"
  · subst hm
    walk_at "w_go"
    by_cases hn : v = .non
    · refine iteT' (decide_eq_true hn) ?_
      walk_at "w_go"
      exact q true H (Same.refl _) ⟨fun _ => .inl ⟨rfl, .inl hn⟩, fun _ => rfl⟩
    · refine iteF' (decide_eq_false hn) ?_
      walk_at "w_go"
      obtain ⟨b, hb⟩ := IntV.of hv.any
      refine ⟨S, kL, rows, ks, t, v, b, rfl, hS, hok, hK, ht, hb, fun r H1 s1 hr1 => ?_⟩
      refine q r H1 s1 ⟨fun z => .inl ⟨rfl, .inr (hr1.mp z)⟩, fun z => hr1.mpr ?_⟩
      rcases z with ⟨_, z | z⟩ | ⟨z, _⟩
      · exact absurd z hn
      · exact z
      · exact absurd rfl z
  · walk_at "w_go"
    refine iteF' (decide_eq_false hm) ?_
    walk_at "w_go"
    rename_i qt H1 n1 s1 e1
    refine r_isiVD e1 (hv.same s1) ?_
    cases o with
    | none =>
      walk_at "w_go"
      exact q false H1 s1 ⟨(fun z => by cases z), fun z => by
        rcases z with ⟨z, _⟩ | ⟨_, xs, z, _⟩
        · exact absurd z hm
        · cases z⟩
    | some xs =>
      walk_at "w_go"
      cases hv with
      | sq hsq hxs hl =>
        rename_i a
        have hA : SqA K H1 a xs := hsq.imp (fun z => .of (s1 _ _ z)) (fun z => .of (s1 _ _ z))
        refine iteF' rfl ?_
        walk_at "w_go"
        refine r_iA rfl hA (fun J G wJ hG => ?_)
        refine r_lcW wJ xs rfl (fun _ => true) (fun x y _ => ∃ c : Bool, y = V.bl c ∧ (c = true ↔ memV rows ks t x)) (fun _ _ _ _ h _ => h) hG (by rw [PySem.sizeLine_eq]; omega) (fun D j x y Hi Hj acc Kt Kf hD ha sI eD yy kt kf => ?_) (fun q2 ys H2 n2 s2 e2 hr2 => ?_)
        · obtain ⟨rfl, hxx⟩ := yy
          rw [ha] at hxx
          cases hxx
          have sJ := s1.trans sI
          obtain ⟨b, hb⟩ := IntV.of (hxs x (List.mem_of_getElem? ha))
          refine ⟨wipe_set1, ?_⟩
          walk_at "w_go"
          refine ⟨S, kL, rows, ks, t, x, b, rfl, hS.same sJ, hok, ⟨sJ _ _ hK.1, hK.2⟩, ht, hb.same sJ, fun r H3 s3 hr3 => ?_⟩
          exact kt rfl _ _ s3 ⟨r, rfl, hr3⟩
        · rw [List.filter_eq_self.mpr (fun _ _ => rfl)] at hr2
          obtain ⟨bs, hbs, hall⟩ : ∃ bs : List Bool, ys = bs.map V.bl ∧ (bs.all id = true ↔ ∀ x, x ∈ xs → memV rows ks t x) := bools_of hr2
          walk_at "w_go"
          refine r_allK (bs := bs) (.of (by rw [e2, hbs])) ?_
          refine q _ H2 (s1.trans s2) ⟨fun z => .inr ⟨hm, xs, rfl, hall.mp z⟩, fun z => hall.mpr ?_⟩
          rcases z with ⟨z, _⟩ | ⟨_, xs', z, h⟩
          · exact absurd z hm
          · cases z
            exact h
theorem ok_kept_value (T : Txt P K mg ad) : FnOk P w K mg base (L2.CX P w) 2 ad.kept_value ad.fd_kept_value ["mode", "value"] spKept := by
  refine T.F_kept_value.okX sc_kept_value (fun vs H Q E h => ?_) (fun cdv A outer s H vs Q E hr h => ?_)
  · obtain ⟨m, v, rfl, _⟩ := h
    rfl
  obtain ⟨m, v, rfl, h⟩ := h
  refine ⟨_, (pss_one (ps_ret (pe_ifExp (pt_cmpR op_eq (pv 0) pe_str (nomark _)) (pv 1) (pe_callTy c_list (by rfl) T.n_list (by decide +kernel) (pa_cons (pv 1) pa_nil))))), ?_⟩
  rw [show L2.start ["mode", "value"] [V.str m, v] = [some (V.str m), some (v)] from rfl]
  rcases h with ⟨rfl, q⟩ | ⟨hm, a, xs, rfl, e, q⟩
  · walk_at "w_go"
    exact q
  · walk_at "w_go"
    refine iteF' (decide_eq_false hm) ?_
    walk_at "w_go"
    rcases e with e | e
    · refine r_listLK e (fun q1 H1 n1 s1 e1 => ?_)
      exact q q1 H1 s1 n1 e1
    · refine r_listTK e (fun q1 H1 n1 s1 e1 => ?_)
      exact q q1 H1 s1 n1 e1
theorem ok_empty_value (T : Txt P K mg ad) : FnOk P w K mg base (L2.CX P w) 2 ad.empty_value ad.fd_empty_value ["mode"] spEmpty := by
  refine T.F_empty_value.okX sc_empty_value (fun vs H Q E h => ?_) (fun cdv A outer s H vs Q E hr h => ?_)
  · obtain ⟨m, rfl, _⟩ := h
    rfl
  obtain ⟨m, rfl, h⟩ := h
  refine ⟨_, (pss_one (ps_ret (pe_ifExp (pt_cmpR op_eq (pv 0) pe_str (nomark _)) pe_non (pe_lst pa_nil)))), ?_⟩
  rw [show L2.start ["mode"] [V.str m] = [some (V.str m)] from rfl]
  rcases h with ⟨rfl, q⟩ | ⟨hm, q⟩
  · walk_at "w_go"
    exact q
  · walk_at "w_go"
    refine iteF' (decide_eq_false hm) ?_
    walk_at "w_go"
    rename_i q1 H1 n1 s1 e1
    exact q q1 H1 s1 n1 e1
theorem ok_numbers_in (T : Txt P K mg ad) : FnOk P w K mg base (L2.CX P w) 2 ad.numbers_in ad.fd_numbers_in ["value"] spNums := by
  refine T.F_numbers_in.okX sc_numbers_in (fun vs H Q E h => ?_) (fun cdv A outer s H vs Q E hr h => ?_)
  · obtain ⟨F, x, v, rfl, _⟩ := h
    rfl
  obtain ⟨F, x, v, rfl, hx, q⟩ := h
  refine ⟨_, (pss_cons (ps_if (pt_cmpR op_isNn (pv 0) pe_non (nomark _)) (pss_one (ps_ret (pe_lst pa_nil))) pss_nil)
    (pss_one (ps_ret (pe_ifExp (pt_val (pe_callB call_isi (by rfl) T.n_isinstance (by decide +kernel) (pa_cons (pv 0) (pa_cons (pe_bltn (v := .ty "list") (by rfl) T.n_list (by decide +kernel) rfl) pa_nil)))) (pe_callTy c_list (by rfl) T.n_list (by decide +kernel) (pa_cons (pv 0) pa_nil)) (pe_lst (pa_cons (pv 0) pa_nil)))))), ?_⟩
  rw [show L2.start ["value"] [v] = [some (v)] from rfl]
  rcases x with (_ | n) | l
  · cases hx
    walk_at "w_go"
    rename_i q1 H1 n1 s1 e1
    exact q q1 H1 s1 n1 e1
  · cases hx
    walk_at "w_go"
    refine iteF' (decide_eq_false (fun z => by cases z)) ?_
    walk_at "w_go"
    refine r_isi (.base (.int _)) rfl ?_
    walk_at "w_go"
    refine iteF' rfl ?_
    walk_at "w_go"
    rename_i q1 H1 n1 s1 e1
    exact q q1 H1 s1 n1 e1
  · obtain ⟨a, rfl, f, e | ⟨hb, e⟩⟩ := hx
    · walk_at "w_go"
      refine iteF' (decide_eq_false (fun z => by cases z)) ?_
      walk_at "w_go"
      refine r_isi (.base (.lst e)) rfl ?_
      walk_at "w_go"
      rename_i q1 H1 n1 s1 e1
      exact q q1 H1 s1 n1 e1
    · cases hb
end
end Wm
namespace Wm
open PySem L2

section
variable {P : Program} {w : World} {K : PySem.W.Frag} {mg : Str → Option Value} {base : Heap} {ad : Ad}
theorem ok_Graph_init (T : Txt P K mg ad) : FnOk P w K mg base (L2.CX P w) 2 ad.Graph_init ad.fd_Graph_init ["self", "schema"] (spGInit ad.Graph) := by
  refine T.F_Graph_init.okX sc_Graph_init (fun vs H Q E h => ?_) (fun cdv A outer s H vs Q E hr h => ?_)
  · obtain ⟨a, dx, S, rfl, _⟩ := h
    rfl
  obtain ⟨a, dx, S, rfl, ea, q⟩ := h
  refine ⟨_, (pss_cons (ps_fld (pv 0) (pv 1) rfl)
    (pss_cons (ps_fld (pv 0) (pe_lst pa_nil) rfl)
    (pss_cons (ps_fld (pv 0) pe_int rfl)
    (pss_one (ps_fld (pv 0) pe_int rfl))))), ?_⟩
  rw [show L2.start ["self", "schema"] [V.ref a, V.ref S] = [some (V.ref a), some (V.ref S)] from rfl]
  have cl := T.ow_Graph.cl
  have f1 := T.no_Graph_schema
  have f2 := T.no_Graph_things
  have f3 := T.no_Graph_root_thing
  have f4 := T.no_Graph_held
  walk_at "w_go"
  rename_i tl H1 n1 s1 e1
  have nta : tl ≠ a := fun z => by
    rw [z, upd_same] at n1
    cases n1
  have b1 : But a H (upd H a (.ins ad.Graph dx (putF "schema" (V.ref S) []))) := (But.refl a H).self
  refine q tl _ (((b1.same s1).self.self).self) ?_ nta ?_ upd_same
  · rw [upd_ne nta] at n1
    exact n1
  · rw [upd_ne nta, upd_ne nta, upd_ne nta]
    exact e1
theorem ok_Graph_check_thing (T : Txt P K mg ad) : FnOk P w K mg base (L2.CX P w) 3 ad.Graph_check_thing ad.fd_Graph_check_thing ["self", "thing"] (spChkT ad.Graph ad.NoThing) := by
  refine T.F_Graph_check_thing.okX sc_Graph_check_thing (fun vs H Q E h => ?_) (fun cdv A outer s H vs Q E hr h => ?_)
  · obtain ⟨g, S, F, rows, ts, root, v, b, rfl, _⟩ := h
    rfl
  obtain ⟨g, S, F, rows, ts, root, v, b, rfl, hG, hv, q, e⟩ := h
  obtain ⟨dx, tl, ads, hin⟩ := hG
  refine ⟨_, (pss_one (ps_if (PW.pt (pw_or (pt_not (pt_val (pe_call (ok_is_integer T) hr rfl T.g_is_integer T.F_is_integer.kp T.b_is_integer .nil passL (pa_cons (pv 1) pa_nil)))) (pw_or1 (pt_not (pt_chain op_le op_lt pe_int (pv 1) (pe_callB c_len (by rfl) T.n_len PySem.boot_len (pa_cons (pe_fld (pv 0) rfl) pa_nil))))))) (pss_one (ps_raiseEr rfl T.er_NoThing hr (takes_of rfl rfl rfl rfl) T.g_NoThing (pa_cons (pv 1) pa_nil))) pss_nil)), ?_⟩
  rw [show L2.start ["self", "thing"] [V.ref g, v] = [some (V.ref g), some (v)] from rfl]
  have cl := T.ow_Graph.cl
  have f1 := T.no_Graph_things
  have eG := hin.at_
  have eT := hin.tl_
  walk_at "w_go"
  have hal : (ads.map fun x => V.ref x.1).length = ts.length := by rw [List.length_map, hin.ths.len]
  refine ⟨v, b, rfl, hv, ?_⟩
  have bad : (∀ n : Nat, v = .int n → ¬ n < ts.length) → ∀ d H', H d = none → Same H H' → H' d = some (.xd [("thing", v)]) → E (.ref ad.NoThing) (some d) H' := fun z d H' n s ed => e z d H' s n ed
  cases b
  · have hz : ∀ n : Nat, v = .int n → ¬ n < ts.length := fun n hn _ => by
      rcases hv with ⟨m, _, h⟩ | ⟨_, h, _⟩
      · cases h
      · exact h n hn
    walk_at "w_go"
    rename_i d H1 n1 s1 e1
    exact bad hz d H1 n1 s1 e1
  · rcases hv with ⟨n, rfl, _⟩ | ⟨_, _, h⟩
    · walk_at "w_go"
      by_cases h0 : 0 ≤ n
      · obtain ⟨k, rfl⟩ := Int.eq_ofNat_of_zero_le h0
        refine iteT' (decide_eq_true h0) ?_
        walk_at "w_go"
        rw [hal]
        by_cases h1 : k < ts.length
        · refine iteF' (by simp; omega) ?_
          walk_at "w_go"
          exact q k rfl h1
        · refine iteT' (by simp; omega) ?_
          walk_at "w_go"
          rename_i d H1 n1 s1 e1
          exact bad (fun m hm => by cases hm; exact h1) d H1 n1 s1 e1
      · refine iteF' (decide_eq_false h0) ?_
        walk_at "w_go"
        rename_i d H1 n1 s1 e1
        exact bad (fun m hm => by cases hm; omega) d H1 n1 s1 e1
    · cases h
theorem ok_Graph_len (T : Txt P K mg ad) : FnOk P w K mg base (L2.CX P w) 2 ad.Graph_len ad.fd_Graph_len ["self"] (spGLen ad.Graph) := by
  refine T.F_Graph_len.okX sc_Graph_len (fun vs H Q E h => ?_) (fun cdv A outer s H vs Q E hr h => ?_)
  · obtain ⟨g, S, F, rows, ts, root, rfl, _⟩ := h
    rfl
  obtain ⟨g, S, F, rows, ts, root, rfl, hG, q⟩ := h
  obtain ⟨dx, tl, ads, hin⟩ := hG
  refine ⟨_, (pss_one (ps_ret (pe_callB c_len (by rfl) T.n_len PySem.boot_len (pa_cons (pe_fld (pv 0) rfl) pa_nil)))), ?_⟩
  rw [show L2.start ["self"] [V.ref g] = [some (V.ref g)] from rfl]
  have cl := T.ow_Graph.cl
  have f1 := T.no_Graph_things
  have eG := hin.at_
  have eT := hin.tl_
  have hal : (ads.map fun x => V.ref x.1).length = ts.length := by rw [List.length_map, hin.ths.len]
  walk_at "w_go"
  rw [hal]
  exact q
theorem ok_Graph_size (T : Txt P K mg ad) : FnOk P w K mg base (L2.CX P w) 2 ad.Graph_size ad.fd_Graph_size ["self"] (spGSize ad.Graph) := by
  refine T.F_Graph_size.okX sc_Graph_size (fun vs H Q E h => ?_) (fun cdv A outer s H vs Q E hr h => ?_)
  · obtain ⟨g, S, F, rows, ts, root, rfl, _⟩ := h
    rfl
  obtain ⟨g, S, F, rows, ts, root, rfl, hG, q⟩ := h
  obtain ⟨dx, tl, ads, hin⟩ := hG
  refine ⟨_, (pss_one (ps_ret (pe_op op_add (pe_callB c_len (by rfl) T.n_len PySem.boot_len (pa_cons (pe_fld (pv 0) rfl) pa_nil)) (pe_fld (pv 0) rfl)))), ?_⟩
  rw [show L2.start ["self"] [V.ref g] = [some (V.ref g)] from rfl]
  have cl := T.ow_Graph.cl
  have f1 := T.no_Graph_things
  have f2 := T.no_Graph_held
  have eG := hin.at_
  have eT := hin.tl_
  have hal : (ads.map fun x => V.ref x.1).length = ts.length := by rw [List.length_map, hin.ths.len]
  walk_at "w_go"
  rw [hal]
  exact q
theorem ok_Graph_root (T : Txt P K mg ad) : FnOk P w K mg base (L2.CX P w) 2 ad.Graph_root ad.fd_Graph_root ["self"] (spGRoot ad.Graph) := by
  refine T.F_Graph_root.okX sc_Graph_root (fun vs H Q E h => ?_) (fun cdv A outer s H vs Q E hr h => ?_)
  · obtain ⟨g, S, F, rows, ts, root, rfl, _⟩ := h
    rfl
  obtain ⟨g, S, F, rows, ts, root, rfl, hG, q⟩ := h
  obtain ⟨dx, tl, ads, hin⟩ := hG
  refine ⟨_, (pss_one (ps_ret (pe_fld (pv 0) rfl))), ?_⟩
  rw [show L2.start ["self"] [V.ref g] = [some (V.ref g)] from rfl]
  have cl := T.ow_Graph.cl
  have f1 := T.no_Graph_root_thing
  have eG := hin.at_
  walk_at "w_go"
  exact q
end
end Wm
namespace Wm
open PySem L2

section
variable {P : Program} {w : World} {K : PySem.W.Frag} {mg : Str → Option Value} {base : Heap} {ad : Ad}
theorem ok_Graph_append_thing (T : Txt P K mg ad) : FnOk P w K mg base (L2.CX P w) 6 ad.Graph_append_thing ad.fd_Graph_append_thing ["self", "kind", "tag", "fields"] (spApp ad.Kind ad.Schema ad.Graph) := by
  refine T.F_Graph_append_thing.okX sc_Graph_append_thing (fun vs H Q E h => ?_) (fun cdv A outer s H vs Q E hr h => ?_)
  · obtain ⟨g, S, d, F, G, rows, ts, t, root, kvs, rfl, _⟩ := h
    rfl
  obtain ⟨g, S, d, F, G, rows, ts, t, root, kvs, rfl, hG, hS, hok, hD, hk, hmo, hl, q⟩ := h
  obtain ⟨dx, tl, ads, hin⟩ := hG
  refine ⟨_, (pss_cons (ps_set (i := 4) sc_Graph_append_thing.nd rfl (Or.inl rfl) pe_dnewK)
    (pss_cons (ps_for (passes_of rfl) rfl (pi_tup (pe_fld (pe_ixOwn (ok_Schema_getitem T) hr T.me_Schema_getitem (fun_in T.F_Schema_getitem) T.b_Schema_getitem passL (pe_fld (pv 0) rfl) (pv 1) (fun _ _ => rfl)) rfl)) (pg_tup rfl (pgs_cons (pg_name (i := 5) sc_Graph_append_thing.nd rfl (Or.inl rfl)) (pgs_cons (pg_name (i := 6) sc_Graph_append_thing.nd rfl (Or.inl rfl)) (pgs_cons (pg_name (i := 7) sc_Graph_append_thing.nd rfl (Or.inl rfl)) (pgs_cons (pg_name (i := 8) sc_Graph_append_thing.nd rfl (Or.inl rfl)) pgs_nil))))) (pss_cons (ps_dput (hu_of hr) (pv 4) (pv 5) (pe_ifExp (pt_cmp (pc_din (hu_of hr) (pv 5) (pv 3))) (pe_call (ok_kept_value T) (hr.mono (by decide)) rfl T.g_kept_value T.F_kept_value.kp T.b_kept_value .nil passL (pa_cons (pv 6) (pa_cons (pe_dget (hu_of hr) (pv 3) (pv 5) (fun _ _ => rfl)) pa_nil))) (pe_call (ok_empty_value T) (hr.mono (by decide)) rfl T.g_empty_value T.F_empty_value.kp T.b_empty_value .nil passL (pa_cons (pv 6) pa_nil))) rfl)
    (pss_one (ps_fldaug (pv 0) (pe_callB c_len (by rfl) T.n_len PySem.boot_len (pa_cons (pe_call (ok_numbers_in T) (hr.mono (by decide)) rfl T.g_numbers_in T.F_numbers_in.kp T.b_numbers_in .nil passL (pa_cons (pe_dget (hu_of hr) (pv 4) (pv 5) (fun _ _ => rfl)) pa_nil)) pa_nil)) in_add))))
    (pss_one (ps_expr (pe_bm PySem.F.plainAttrs_list PySem.F.slot_list_append PySem.F.type_list_append mt_append (pe_fld (pv 0) rfl) (pa_cons (pe_lst (pa_cons (pv 1) (pa_cons (pv 2) (pa_cons (pv 4) pa_nil)))) pa_nil)))))), ?_⟩
  rw [show L2.start ["self", "kind", "tag", "fields", "values", "name", "mode", "target", "owner"] [V.ref g, V.str t.kind, V.int t.tag, V.ref d] = [some (V.ref g), some (V.str t.kind), some (V.int t.tag), some (V.ref d), none, none, none, none, none] from rfl]
  have cl := T.ow_Graph.cl
  have clS := T.ow_Schema.cl
  have clK := T.ow_Kind.cl
  have f1 := T.no_Graph_schema
  have f2 := T.no_Graph_things
  have f3 := T.no_Graph_held
  have f4 := T.no_Kind_fields
  have hS0 := hS
  obtain ⟨sdx, rv, nv, dv, rvs, skvs, hsin⟩ := hS0
  have eG := hin.at_
  have hB := hin.b
  walk_at "w_go"
  rename_i vd H1 n1 s1 e1
  have eS1 := s1 _ _ hsin.at_
  refine r_ixOwn eS1 ⟨S, rows, .str t.kind, true, rfl, hS.same s1, hok, kn_name hok hk, fun r kv H2 hv hr2 s2 k2 => ?_, fun bad => absurd hk (bad _ rfl)⟩
  have hrn : r.name = t.kind := (V.str.inj hv).symm
  obtain ⟨a2, kdx, bv, ov, la, fa, fvs, rfl, kin⟩ := k2
  have ff4 := kin.f4
  rw [hrn] at ff4
  have g2 := kin.at_
  have s12 := s1.trans s2
  have e2 := s2 _ _ e1
  have eG2 := s12 _ _ eG
  walk_at "w_go"
  have ndk : (keysF (fieldsF rows t.kind)).Nodup := by
    unfold keysF
    have := fields_names hok hk
    exact (List.pairwise_map.mpr ((List.pairwise_map.mp this).imp fun h z => h (Sum.inr.inj z)))
  have hfl := fields_len hok.ok hk
  refine r_itK (.of kin.flds) (for_tup (K := K) (a := fa) (xs := fvs) (fun i σ H' => ∃ (v5 v6 v7 v8 : Option V) (ws : List (Key × V)), σ = [some (.ref g), some (.str t.kind), some (.int t.tag), some (.ref d), some (.ref vd), v5, v6, v7, v8] ∧ Frm (· = g) H H' ∧ Tx H2 H' ∧
    H' vd = some (.dK ws) ∧ ws.map (·.1) = keysF ((fieldsF rows t.kind).take i) ∧ All2 (FvR (New H) false H') (t.vals.take i) (ws.map (·.2)) ∧ H' g = some (.ins ad.Graph dx (gfsF S tl root ((heldN ts : Nat) + (((t.vals.take i).flatMap FV.nums).length : Nat))))) ⟨_, _, _, _, [], rfl, .of s12, Tx.refl _, e2, rfl, .nil, ?_⟩ ?_ ?_ ?_)
  · simpa using eG2
  · rintro i σ H' _ ⟨v5, v6, v7, v8, ws, rfl, hf, ht, _⟩
    exact .of (ht _ _ kin.flds)
  · rintro i x σ H' hi ⟨v5, v6, v7, v8, ws, rfl, hf, ht, hvd, hwk, hws, hg⟩
    obtain ⟨f, hfi, hfx⟩ := ff4.right hi
    obtain ⟨ta, rfl, hta⟩ := hfx.tx ht
    refine r_gtupK hta rfl ?_
    have but : But g H H' := fun b o nb e => hf b o nb e
    have hD' := hD.but eG but
    have ed := hD'.at_
    obtain ⟨x, hx, hfv⟩ := hD'.vs.left hfi
    obtain ⟨x', hx', hmd⟩ := hmo.left hfi
    rw [hx] at hx'
    cases hx'
    have hwl : ws.length ≤ 4 := by
      have := congrArg List.length hwk
      rw [List.length_map] at this
      unfold keysF at this
      rw [List.length_map, List.length_take] at this
      omega
    have hwn : valV ws (.inr f.1) = none := valV_none (by
      rw [hwk]
      exact nd_take (g := fun f : Fld4 => (Sum.inr f.1 : Key)) ndk hfi)
    have nvd : vd ≠ g := (ne_of_none eG n1).symm
    walk_at "w_go"
    refine ⟨d, valV kvs (.inr f.1), rfl, DGet.k (k := .inr f.1) ed, _, rfl, ?_⟩
    refine r_ifE (fun v H3 => Same H' H3 ∧ FvR (New H) false H3 x v) (fun hc R hR => ?_) (fun hc R hR => ?_) (fun v H3 ⟨s3, hv3⟩ => ?_)
    · obtain ⟨v, hvv⟩ := Option.isSome_iff_exists.mp hc
      rw [hvv] at hfv
      walk_at "w_go"
      refine r_dgetK ed hvv ?_
      walk_at "w_go"
      refine ⟨f.2.1, v, rfl, ?_⟩
      rcases x with o | l
      · refine .inl ⟨hmd, hR _ _ ⟨Same.refl _, ?_⟩⟩
        cases o <;> exact hfv
      · obtain ⟨a, rfl, fa, ea⟩ := hfv
        refine .inr ⟨hmd, a, numsV l, rfl, ea.imp id (·.2), fun q5 H5 s5 n5 e5 => hR _ _ ⟨s5, q5, rfl, ?_, .inl e5⟩⟩
        exact frm_none hf eG hg n5
    · have hvv : valV kvs (.inr f.1) = none := by simpa using hc
      rw [hvv] at hfv
      subst hfv
      walk_at "w_go"
      refine ⟨f.2.1, rfl, ?_⟩
      unfold emptyFV at hmd
      by_cases hm : f.2.1 = "one"
      · refine .inl ⟨hm, hR _ _ ⟨Same.refl _, ?_⟩⟩
        unfold emptyFV
        rw [if_pos hm]
        rfl
      · refine .inr ⟨hm, fun q5 H5 s5 n5 e5 => hR _ _ ⟨s5, ?_⟩⟩
        unfold emptyFV
        rw [if_neg hm]
        exact ⟨q5, rfl, frm_none hf eG hg n5, .inl e5⟩
    · have hvd3 := s3 _ _ hvd
      have hg3 := s3 _ _ hg
      have hws3 : All2 (FvR (New H) false H3) (t.vals.take i) (ws.map (·.2)) := hws.mono fun _ _ z => z.kps (.of s3)
      have hf3 := hf.same s3
      have ht3 := ht.trans (tx_same s3)
      clear hvd hg hws hf ht hD' ed hfv
      walk_at "w_go"
      refine r_dputK hvd3 (putK_new v hwn) (by rw [PySem.sizeLine_eq]; omega) ?_
      have hv4 : FvR (New H) false (upd H3 vd (.dK (ws ++ [(.inr f.1, v)]))) x v := FvR.putD hv3 hvd3
      have hws4 : All2 (FvR (New H) false (upd H3 vd (.dK (ws ++ [(.inr f.1, v)])))) (t.vals.take i) (ws.map (·.2)) := hws3.mono fun _ _ z => FvR.putD z hvd3
      have hf4 : Frm (· = g) H (upd H3 vd (.dK (ws ++ [(.inr f.1, v)]))) := hf3.putN n1
      have ht4 : Tx H2 (upd H3 vd (.dK (ws ++ [(.inr f.1, v)]))) := ht3.trans (tx_dic hvd3)
      have hg4 : (upd H3 vd (.dK (ws ++ [(.inr f.1, v)]))) g = _ := (upd_ne nvd.symm).trans hg3
      have hvd4 : (upd H3 vd (.dK (ws ++ [(.inr f.1, v)]))) vd = some (.dK (ws ++ [(.inr f.1, v)])) := upd_same
      generalize upd H3 vd (.dK (ws ++ [(.inr f.1, v)])) = H4 at hv4 hws4 hf4 ht4 hg4 hvd4 ⊢
      refine ⟨_, rfl, g, ad.Graph, dx, _, _, rfl, hg4, cl, f3, rfl, ?_⟩
      walk_at "w_go"
      refine r_dgetK hvd4 (by rw [valV_snoc _ _ _ _ hwn, if_pos rfl]) ?_
      walk_at "w_go"
      refine ⟨New H, x, v, rfl, hv4, fun q5 H5 s5 n5 e5 => ?_⟩
      walk_at "w_go"
      have hlen5 : (numsV x.nums).length = x.nums.length := by unfold numsV; rw [List.length_map]
      refine ⟨_, _, rfl, rfl, dx, _, s5 _ _ hg4, (by decide : 4 < 1000), ?_⟩
      have g5 := s5 _ _ hg4
      have bt : But g H5 (upd H5 g (.ins ad.Graph dx (putF "held" (V.int (((heldN ts : Nat) : Int) + (((t.vals.take i).flatMap FV.nums).length : Nat) + ((numsV x.nums).length : Nat))) (gfsF S tl root ((heldN ts : Nat) + (((t.vals.take i).flatMap FV.nums).length : Nat)))))) := (But.refl g H5).self
      refine ⟨_, _, _, _, ws ++ [(.inr f.1, v)], rfl, (hf4.same s5).put rfl, (ht4.trans (tx_same s5)).trans (bt.tx g5), bt _ _ nvd (s5 _ _ hvd4), ?_, ?_, ?_⟩
      · rw [take_snoc hfi, List.map_append, hwk]
        unfold keysF
        rw [List.map_append]
        rfl
      · rw [take_snoc hx, List.map_append]
        exact All2.snoc ((hv4.kps (.of s5)).but g5 bt) (hws4.mono fun _ _ z => (z.kps (.of s5)).but g5 bt)
      · rw [upd_same, take_snoc hx, List.flatMap_append, List.length_append, hlen5]
        simp only [List.flatMap_cons, List.flatMap_nil, List.append_nil]
        show some (HO.ins ad.Graph dx (gfsF S tl root _)) = _
        congr 3
        omega
  · rintro σ H' ⟨v5, v6, v7, v8, ws, rfl, hf, ht, hvd, hwk, hws, hg⟩
    have ntg : tl ≠ g := pl_ne hin.tl_ trivial eG
    have etl := hf _ _ ntg hin.tl_
    have hvl : (fieldsF rows t.kind).length = fvs.length := ff4.len
    have hvl2 : (fieldsF rows t.kind).length = t.vals.length := hmo.len
    rw [← hvl, List.take_length] at hwk
    rw [← hvl, hvl2, List.take_length] at hws
    rw [← hvl, hvl2, List.take_length] at hg
    walk_at "w_go"
    rename_i a H5 n5 s5 e5
    have nvd : vd ≠ g := (ne_of_none eG n1).symm
    have n5' : H a = none := frm_none hf eG hg n5
    have nat : a ≠ tl := (ne_of_none hin.tl_ n5').symm
    have nvt : vd ≠ tl := (ne_of_none hin.tl_ n1).symm
    have but : But g H H' := fun b o nb e => hf b o nb e
    have hB5 : GrB (fun b => F b ∨ H b = none) H5 rows ts tl ads := ((hB.but eG but).kps (.of s5)).sub fun _ _ f _ _ => .inl f
    have ht5 : ThIn (fun b => (F b ∨ H b = none) ∧ b ≠ tl) H5 rows t (a, vd) := by
      refine ⟨⟨.inr n5', nat⟩, e5, ws, s5 _ _ hvd, ⟨.inr n1, nvt⟩, hwk, hws.mono fun _ _ z => (z.kps (.of s5)).sub fun b o f _ _ => ⟨.inr f, (ne_of_none hin.tl_ f).symm⟩⟩
    have hna : ∀ x, x ∈ ads → x.1 ≠ a := fun x hx z => by
      obtain ⟨⟨o, ho⟩, _⟩ := hB.taken x hx
      rw [z, n5'] at ho
      cases ho
    have hnd : ∀ x, x ∈ ads → x.2 ≠ vd := fun x hx z => by
      obtain ⟨_, o, ho⟩ := hB.taken x hx
      rw [z, n1] at ho
      cases ho
    have hadd := hB5.add ht5 hna hnd
    have hal : ads.length = ts.length := hin.ths.len.symm
    refine r_append (s5 _ _ etl) (by rw [PySem.sizeLine_eq, List.length_map]; omega) ?_
    refine q _ (((Frm.same (fun b o nb e => hf b o (fun z => nb (z ▸ hin.fg)) e) s5).put hin.ft)) ⟨dx, tl, _, hadd.gr ?_ (.inl hin.fg)⟩
    rw [upd_ne ntg.symm, held_add]
    have := s5 _ _ hg
    unfold heldT
    rw [this]
    congr 3
end
end Wm
namespace Wm
open PySem L2

section
variable {P : Program} {w : World} {K : PySem.W.Frag} {mg : Str → Option Value} {base : Heap} {ad : Ad}
theorem ok_Graph_row (T : Txt P K mg ad) : FnOk P w K mg base (L2.CX P w) 4 ad.Graph_row ad.fd_Graph_row ["self", "thing"] (spGRow ad.Graph ad.NoThing) := by
  refine T.F_Graph_row.okX sc_Graph_row (fun vs H Q E h => ?_) (fun cdv A outer s H vs Q E hr h => ?_)
  · obtain ⟨g, S, F, rows, ts, root, v, b, rfl, _⟩ := h
    rfl
  obtain ⟨g, S, F, rows, ts, root, v, b, rfl, hG, hv, hok, hnm, q, e⟩ := h
  have hG0 := hG
  obtain ⟨dx, tl, ads, hin⟩ := hG0
  refine ⟨_, (pss_cons (ps_expr (pe_meth (pv 0) T.ow_Graph.cl T.me_Graph_check_thing (ok_Graph_check_thing T) hr T.b_Graph_check_thing .nil (passes_call (takes_of rfl rfl rfl rfl) (fun _ _ _ _ h => h)) (pa_cons (pv 1) pa_nil)))
    (pss_cons (ps_asg (pe_ix ix_list (pe_fld (pv 0) rfl) (pv 1) (fun _ _ => rfl)) (pg_lst rfl (pgs_cons (pg_name (i := 2) sc_Graph_row.nd rfl (Or.inl rfl)) (pgs_cons (pg_name (i := 3) sc_Graph_row.nd rfl (Or.inl rfl)) (pgs_cons (pg_name (i := 4) sc_Graph_row.nd rfl (Or.inl rfl)) pgs_nil)))))
    (pss_cons (ps_lock (ps_setDc (i := 5) (own := [("name", 6), ("value", 7)]) (g := (gTup K 2 (gCons (gName 6) (gCons (gName 7) gNil)))) (tt := tYes) rfl sc_Graph_row.nd rfl rfl (swD_true rfl rfl rfl (by decide +kernel)) (pi_items (pv 4)) (blkOk_by (own := [("name", 6), ("value", 7)]) (N := ["self", "thing", "kind", "tag", "values", "copied", "name", "value"]) (sc := defScope s_Graph_row) (by decide +kernel)) (fun _ _ _ _ _ => (pg_tup rfl (pgs_cons (pg_name (i := 6) sc_Graph_row.nd rfl (Or.inl rfl)) (pgs_cons (pg_name (i := 7) sc_Graph_row.nd rfl (Or.inl rfl)) pgs_nil)))) (fun _ _ _ _ _ => pts_nil) (fun _ _ _ _ _ => (pv 6)) (fun _ _ _ _ _ => (pe_ifExp (pt_val (pe_callB (call_isi : CallR _ (.builtin "isinstance") (rIsi K)) (by rfl) T.n_isinstance (by decide +kernel) (pa_cons (pv 7) (pa_cons (pe_bltn (v := .ty "list") (by rfl) T.n_list (by decide +kernel) rfl) pa_nil)))) (pe_callTy (c_list : CallR _ (.type "list") (rListOf K)) (by rfl) T.n_list (by decide +kernel) (pa_cons (pv 7) pa_nil)) (pv 7)))))
    (pss_one (ps_ret (pe_tup (pa_cons (pv 2) (pa_cons (pv 3) (pa_cons (pv 5) pa_nil))))))))), ?_⟩
  rw [show L2.start ["self", "thing", "kind", "tag", "values", "copied", "name", "value"] [V.ref g, v] = [some (V.ref g), some (v), none, none, none, none, none, none] from rfl]
  have cl := T.ow_Graph.cl
  have f1 := T.no_Graph_things
  have eG := hin.at_
  have eT := hin.tl_
  walk_at "w_go"
  refine ⟨g, S, F, rows, ts, root, v, b, rfl, hG, hv, fun n e1 h1 => ?_, e⟩
  subst e1
  obtain ⟨t, ht⟩ : ∃ t, ts[n]? = some t := ⟨_, List.getElem?_eq_getElem h1⟩
  obtain ⟨x, hx, hth⟩ := hin.ths.left ht
  obtain ⟨fx, ex, kvs, hd⟩ := hth
  have hat : atI (ads.map fun x => V.ref x.1) (n : Int) = some (.ref x.1) := atI_nat (by rw [List.getElem?_map, hx]; rfl)
  walk_at "w_go"
  refine r_ixLK eT hat ?_
  walk_at "w_go"
  have ed := hd.at_
  obtain ⟨hl1, hl2⟩ := hd.len
  have hkn : t.kind ∈ names rows := hnm t (List.mem_of_getElem? ht)
  refine r_lockS ed (fun od => ?_)
  have efz : (upd H x.2 (.frz od (.dK kvs))) x.2 = some (.frz od (.dK kvs)) := upd_same
  have hfl := fields_len hok.ok hkn
  refine r_asg ?_
  refine r_dc ?_
  refine r_iItems ?_
  walk_at "w_go"
  refine ⟨x.2, od, kvs, rfl, efz, ?_⟩
  refine r_dcW walk_items ((fieldsF rows t.kind).zip t.vals) (by rw [List.length_zip]; omega) (fun a => a.1.1) (fun a v H' => FvR (New H) false H' a.2 v) (by
    rw [show (fun a : Fld4 × FV => a.1.1) = (fun f : Fld4 => f.1) ∘ Prod.fst from rfl, ← List.map_map, zip_fst hl1]
    exact fields_names hok hkn) (fun _ _ _ _ h hh => h.kps fun b o _ e => hh b o e) (fun _ s => s _ _ efz) (by rw [PySem.sizeLine_eq]; omega) (fun D j a y Hi Hj kvs2 N Kf hD ha sI eD yy kN => ?_) (fun qd kvs2 H1 n1 s1 e1 hk1 => ?_)
  · obtain ⟨Tp, x1, y1, rfl, nT, rfl, ex1, ey1⟩ := yy
    obtain ⟨ha1, ha2⟩ := zip_at ha
    obtain ⟨kv, hkv, hk1, hk2⟩ := hd.at ha1 ha2
    have ex2 : kvs[j]?.map (fun kv => kV kv.1) = some x1 := ex1
    have ey2 : kvs[j]?.map Prod.snd = some y1 := ey1
    rw [hkv] at ex2 ey2
    cases ex2
    cases ey2
    clear ex1 ey1
    have sT : Same Hi (upd Hi Tp (.tup [kV kv.1, kv.2])) := same_new nT
    have eT : (upd Hi Tp (.tup [kV kv.1, kv.2])) Tp = some (.tup [kV kv.1, kv.2]) := upd_same
    generalize upd Hi Tp (.tup [kV kv.1, kv.2]) = Hj at sT eT
    rw [hk1, show kV (Sum.inr a.1.1) = V.str a.1.1 from rfl] at eT
    have hvz : FvR (fun b => F b ∧ b ≠ tl) false (upd H x.2 (.frz od (.dK kvs))) a.2 kv.2 := FvR.putAny hk2 ed trivial
    have hvj := (hvz.kps (.of (sI.trans sT)))
    have eDj := sT _ _ eD
    generalize hwp : wipe [some (V.ref g), some (V.int n), some (V.str t.kind), some (V.int t.tag), some (V.ref x.2), none, none, none] _ = σ0
    have hw2 : σ0 = [some (V.ref g), some (V.int n), some (V.str t.kind), some (V.int t.tag), some (V.ref x.2), none, none, none] := hwp.symm.trans rfl
    clear hwp
    subst hw2
    refine r_gtupK eT rfl ?_
    walk_at "w_go"
    refine ⟨rfl, ?_⟩
    walk_at "w_go"
    generalize kv.2 = v at hvj
    rcases h2 : a.2 with (_ | m) | l
    · rw [h2] at hvj
      cases hvj
      refine r_isi (.base .non) rfl ?_
      walk_at "w_go"
      refine iteF' rfl ?_
      walk_at "w_go"
      exact kN _ _ sT (by rw [h2]; rfl)
    · rw [h2] at hvj
      cases hvj
      refine r_isi (.base (.int _)) rfl ?_
      walk_at "w_go"
      refine iteF' rfl ?_
      walk_at "w_go"
      exact kN _ _ sT (by rw [h2]; rfl)
    · rw [h2] at hvj
      obtain ⟨p, rfl, fp, ep | ⟨z, _⟩⟩ := hvj
      · refine r_isi (.base (.lst ep)) rfl ?_
        walk_at "w_go"
        rename_i q6 H6 n6 s6 e6
        have n6D : q6 ≠ D := fun z => by
          rw [z, eDj] at n6
          cases n6
        have n6x : H q6 = none := by
          have z := (sI.trans sT).free n6
          by_cases zz : q6 = x.2
          · rw [zz, efz] at z
            cases z
          · rw [upd_ne zz] at z
            exact z
        exact kN _ _ (sT.trans s6) (by rw [h2]; exact ⟨q6, rfl, n6x, .inl (hid_at n6D e6)⟩)
      · cases z
  · obtain ⟨hk3, hk4⟩ := full_of hl1 hk1
    have nqx : qd ≠ x.2 := fun z => by
      rw [z, efz] at n1
      cases n1
    have n1' : H qd = none := by
      rw [upd_ne nqx] at n1
      exact n1
    walk_at "w_go"
    refine ⟨s1 _ _ efz, ?_⟩
    have sU := same_lock ed s1
    have eU : (upd H1 x.2 (.dK kvs)) qd = some (.dK kvs2) := (upd_ne nqx).trans e1
    have hU : All2 (FvR (New H) false (upd H1 x.2 (.dK kvs))) t.vals (kvs2.map (·.2)) := hk4.mono fun _ _ z => z.putAny (s1 _ _ efz) trivial
    walk_at "w_go"
    rename_i q7 H7 n7 s7 e7
    exact q n t rfl ht _ _ (sU.trans s7) ⟨q7, qd, kvs2, rfl, sU.free n7, e7, s7 _ _ eU, n1', hk3, hU.mono fun _ _ z => z.kps (.of s7)⟩
theorem ok_Graph_all_rows (T : Txt P K mg ad) : FnOk P w K mg base (L2.CX P w) 5 ad.Graph_all_rows ad.fd_Graph_all_rows ["self"] (spGRows ad.Graph) := by
  refine T.F_Graph_all_rows.okX sc_Graph_all_rows (fun vs H Q E h => ?_) (fun cdv A outer s H vs Q E hr h => ?_)
  · obtain ⟨g, S, F, rows, ts, root, rfl, _⟩ := h
    rfl
  obtain ⟨g, S, F, rows, ts, root, rfl, hG, hok, hnm, hl, q⟩ := h
  have hG0 := hG
  obtain ⟨dx, tl, ads, hin⟩ := hG0
  refine ⟨_, (pss_one (ps_ret (pe_lc (own := [("thing", 1)]) (g := gName 1) (tt := tYes) rfl sc_Graph_all_rows.nd (pi_range1 rfl T.n_range (pa_cons (pe_callB c_len (by rfl) T.n_len PySem.boot_len (pa_cons (pe_fld (pv 0) rfl) pa_nil)) pa_nil)) (blkOk_by (own := [("thing", 1)]) (N := ["self", "thing"]) (sc := defScope s_Graph_all_rows) (by decide +kernel)) (fun _ _ _ _ _ => pg_name (i := 1) sc_Graph_all_rows.nd rfl (Or.inl rfl)) (fun _ _ _ _ _ => pts_nil) (fun _ _ _ _ _ => (pe_meth (pv 0) T.ow_Graph.cl T.me_Graph_row (ok_Graph_row T) hr T.b_Graph_row .nil passL (pa_cons (pv 1) pa_nil)))))), ?_⟩
  rw [show L2.start ["self", "thing"] [V.ref g] = [some (V.ref g), none] from rfl]
  have cl := T.ow_Graph.cl
  have f1 := T.no_Graph_things
  have eG := hin.at_
  have eT := hin.tl_
  have hal : (ads.map fun x => V.ref x.1).length = ts.length := by rw [List.length_map, hin.ths.len]
  walk_at "w_go"
  refine ⟨ts.length, by rw [hal], by omega, by omega, ?_⟩
  refine r_lcW walk_range ts (by simp) (fun _ => true) (fun t y H' => RowR (New H) false H' rows t y) (fun _ _ _ _ h hh => h.str hh) (fun _ _ => trivial) (by rw [PySem.sizeLine_eq]; omega) (fun D j t x Hi Hj acc Kt Kf hD ha sI eD y kt kf => ?_) (fun q2 ys H2 n2 s2 e2 hr2 => ?_)
  · obtain ⟨rfl, rfl⟩ := y
    have hj : j < ts.length := (List.getElem?_eq_some_iff.mp ha).1
    refine ⟨wipe_set1, ?_⟩
    have eGj := sI _ _ eG
    walk_at "w_go"
    refine ⟨g, S, F, rows, ts, root, .int (0 + (j : Int)), true, rfl, hG.kps (.of sI), .int _, hok, hnm, fun n' t' e1 h1 x H3 s3 hx => ?_, fun z => absurd hj (z j (by rw [Int.zero_add]))⟩
    have e2 : n' = j := by
      have := V.int.inj e1
      omega
    subst e2
    rw [ha] at h1
    cases h1
    exact kt rfl _ _ s3 (hx.hid eD sI)
  · rw [List.filter_eq_self.mpr (fun _ _ => rfl)] at hr2
    exact q q2 H2 s2 ⟨ys, n2, e2, hr2⟩
end
end Wm
namespace Wm
open PySem L2

section
variable {P : Program} {w : World} {K : PySem.W.Frag} {mg : Str → Option Value} {base : Heap} {ad : Ad}
theorem ok_l_tag (T : Txt P K mg ad) : FnOk P w K mg base (L2.CX P w) 3 ad.l_tag ad.fd_l_tag ["_law_pen_here"] spLTag := by
  refine T.F_l_tag.okX sc_l_tag (fun vs H Q E h => ?_) (fun cdv A outer s H vs Q E hr h => ?_)
  · obtain ⟨p, c, rfl, _⟩ := h
    rfl
  obtain ⟨p, c, rfl, hp, q⟩ := h
  refine ⟨_, (pss_cons (ps_set (i := 1) sc_l_tag.nd rfl (Or.inl rfl) (pe_ix ix_list (pe_lst (pa_cons pe_int (pa_cons pe_int (pa_cons pe_int (pa_cons (pe_op op_sub (pe_op op_pow pe_int pe_int) pe_int) (pa_cons (pe_un un_neg (pe_op op_pow pe_int pe_int)) pa_nil)))))) (pe_call (ok_l_take T) hr rfl T.g_l_take T.F_l_take.kp T.b_l_take .nil passL (pa_cons (pv 0) (pa_cons pe_int pa_nil))) (fun _ _ => rfl)))
    (pss_one (ps_ret (pe_op op_add (pv 1) (pe_call (ok_l_take T) hr rfl T.g_l_take T.F_l_take.kp T.b_l_take .nil passL (pa_cons (pv 0) (pa_cons pe_int pa_nil))))))), ?_⟩
  rw [show L2.start ["_law_pen_here", "_law_shift"] [V.ref p] = [some (V.ref p), none] from rfl]
  walk_at "w_go"
  rename_i q1 H1 n1 s1 e1
  have hp1 := hp.same s1
  refine r_take hp1 (by decide) (by decide) (fun r H2 a0 a1 s2 => ?_)
  obtain ⟨k, rfl⟩ := Int.eq_ofNat_of_zero_le a0
  have e2 := s2.at hp1 e1 rfl
  have hk : k < 5 := by omega
  have hx : ∃ x : Int, atI [V.int 0, V.int 0, V.int 0, V.int (10 ^ Int.toNat 30 - 2), V.int (-10 ^ Int.toNat 30)] (k : Int) = some (.int x) ∧ -MT ≤ x ∧ x ≤ MT - 2 := by
    have e10 : (10 : Int) ^ Int.toNat 30 = MT := by unfold MT; decide
    rw [e10]
    have hM : (0 : Int) ≤ MT - 2 := by unfold MT; decide
    match k, hk with
    | 0, _ => exact ⟨0, rfl, by omega, by omega⟩
    | 1, _ => exact ⟨0, rfl, by omega, by omega⟩
    | 2, _ => exact ⟨0, rfl, by omega, by omega⟩
    | 3, _ => exact ⟨_, rfl, by omega, by omega⟩
    | 4, _ => exact ⟨_, rfl, by omega, by omega⟩
  obtain ⟨x, hx, hx1, hx2⟩ := hx
  refine r_ixLK e2 hx ?_
  walk_at "w_go"
  refine r_take s2.pen (by decide) (by decide) (fun r H3 b0 b1 s3 => ?_)
  walk_at "w_go"
  exact q _ H3 (((PenStep.refl hp).same s1).trans (s2.trans s3)) (by omega) (by omega)
theorem ok_l_targets (T : Txt P K mg ad) : FnOk P w K mg base (L2.CX P w) 4 ad.l_targets ad.fd_l_targets ["_law_rows", "_law_kinds", "_law_target"] spLTargs := by
  refine T.F_l_targets.okX sc_l_targets (fun vs H Q E h => ?_) (fun cdv A outer s H vs Q E hr h => ?_)
  · obtain ⟨L, kL, rows, ks, t, rfl, _⟩ := h
    rfl
  obtain ⟨L, kL, rows, ks, t, rfl, hR, hok, eK, hl, q⟩ := h
  refine ⟨_, (pss_cons (ps_set (i := 3) sc_l_targets.nd rfl (Or.inr rfl) (pe_call (ok_l_under T) hr rfl T.g_l_under T.F_l_under.kp T.b_l_under .nil passL (pa_cons (pv 0) (pa_cons (pv 2) pa_nil))))
    (pss_one (ps_ret (pe_lc (own := [("_law_k", 4)]) (g := gName 4) rfl sc_l_targets.nd (pi_range1 rfl T.n_range (pa_cons (pe_callB c_len (by rfl) T.n_len PySem.boot_len (pa_cons (pv 1) pa_nil)) pa_nil)) (blkOk_by (own := [("_law_k", 4)]) (N := ["_law_rows", "_law_kinds", "_law_target", "_law_under_here", "_law_k"]) (sc := defScope s_l_targets) (by decide +kernel)) (fun _ _ _ _ _ => pg_name (i := 4) sc_l_targets.nd rfl (Or.inl rfl)) (fun _ _ _ _ _ => (pts_one (pt_cmpR (op_in_seq : OpR _ _ (rIn K false)) (pe_ix (ix_list : IxR _ (rIxL K)) (pv 1) (pv 4) (fun _ _ => rfl)) (pv 3) (by rfl)))) (fun _ _ _ _ _ => (pv 4)))))), ?_⟩
  rw [show L2.start ["_law_rows", "_law_kinds", "_law_target", "_law_under_here", "_law_k"] [V.ref L, V.ref kL, V.str t] = [some (V.ref L), some (V.ref kL), some (V.str t), none, none] from rfl]
  walk_at "w_go"
  refine ⟨L, rows, _, t, rfl, hR, hok.ok, hok.few, fun u H1 s1 n1 e1 => ?_⟩
  have eK1 := s1 _ _ eK
  walk_at "w_go"
  refine ⟨ks.length, by rw [List.length_map], by omega, by omega, ?_⟩
  refine r_lcW walk_range (List.range ks.length) (by simp) (fun k => match ks[k]? with | some x => decide (x ∈ underF rows t) | none => false) (fun k y _ => y = V.int (k : Nat)) (fun _ _ _ _ h _ => h) (fun _ _ => trivial) (by rw [PySem.sizeLine_eq]; omega) (fun D j k x Hi Hj acc Kt Kf hD ha sI eD y kt kf => ?_) (fun q2 ys H2 n2 s2 e2 hr2 => ?_)
  · obtain ⟨rfl, rfl⟩ := y
    have hj : j = k := by
      have := (List.getElem?_eq_some_iff.mp ha).2
      simpa using this
    subst hj
    have hjl : j < ks.length := by
      have := (List.getElem?_eq_some_iff.mp ha).1
      simpa using this
    obtain ⟨x, hx⟩ : ∃ x, ks[j]? = some x := ⟨_, List.getElem?_eq_getElem hjl⟩
    have eu := sI _ _ e1
    have ek := sI _ _ eK1
    refine ⟨wipe_set1, ?_⟩
    walk_at "w_go"
    refine r_ixLK ek (by rw [Int.zero_add]; exact atI_nat (by rw [List.getElem?_map, hx]; rfl)) ?_
    walk_at "w_go"
    refine r_inSP (.inl (.of eu)) ?_
    walk_at "w_go"
    rw [hx] at kt kf
    by_cases hm : x ∈ underF rows t
    · refine iteT' (decide_eq_true hm) ?_
      walk_at "w_go"
      exact kt (decide_eq_true hm) _ _ (Same.refl _) (by show V.int (0 + (j : Int)) = _; rw [Int.zero_add])
    · refine iteF' (decide_eq_false hm) ?_
      exact kf (decide_eq_false hm) _ (Same.refl _)
  · have hys := all2_map hr2
    exact q q2 H2 (s1.trans s2) (s1.free n2) (by rw [e2, hys]; rfl)
theorem ok_l_value (T : Txt P K mg ad) : FnOk P w K mg base (L2.CX P w) 5 ad.l_value ad.fd_l_value ["_law_pen_here", "_law_rows", "_law_kinds", "_law_mode", "_law_target", "_law_cap"] spLVal := by
  refine T.F_l_value.okX sc_l_value (fun vs H Q E h => ?_) (fun cdv A outer s H vs Q E hr h => ?_)
  · obtain ⟨p, c, L, kL, rows, ks, m, t, cap, rfl, _⟩ := h
    rfl
  obtain ⟨p, c, L, kL, rows, ks, m, t, cap, rfl, hp, hR, hok, eK, hl, hm, hcap, q⟩ := h
  refine ⟨_, (pss_cons (ps_set (i := 6) sc_l_value.nd rfl (Or.inr rfl) (pe_call (ok_l_targets T) hr rfl T.g_l_targets T.F_l_targets.kp T.b_l_targets .nil passL (pa_cons (pv 1) (pa_cons (pv 2) (pa_cons (pv 4) pa_nil)))))
    (pss_cons (ps_if (pt_cmpR op_eq (pv 3) pe_str (nomark _)) (pss_cons (ps_set (i := 7) sc_l_value.nd rfl (Or.inl rfl) (pe_call (ok_l_take T) (hr.mono (by decide)) rfl T.g_l_take T.F_l_take.kp T.b_l_take .nil passL (pa_cons (pv 0) (pa_cons (pe_op op_add (pe_callB c_len (by rfl) T.n_len PySem.boot_len (pa_cons (pv 6) pa_nil)) pe_int) pa_nil))))
    (pss_cons (ps_if (pt_cmpR op_eq (pv 7) (pe_callB c_len (by rfl) T.n_len PySem.boot_len (pa_cons (pv 6) pa_nil)) (nomark _)) (pss_one (ps_ret pe_non)) pss_nil)
    (pss_one (ps_ret (pe_ix ix_list (pv 6) (pv 7) (fun _ _ => rfl)))))) pss_nil)
    (pss_cons (ps_if (pt_cmpR op_eq (pe_callB c_len (by rfl) T.n_len PySem.boot_len (pa_cons (pv 6) pa_nil)) pe_int (nomark _)) (pss_one (ps_ret (pe_lst pa_nil))) pss_nil)
    (pss_one (ps_ret (pe_lc (own := [("_law_k", 8)]) (g := gName 8) (tt := tYes) rfl sc_l_value.nd (pi_range1 rfl T.n_range (pa_cons (pe_call (ok_l_take T) (hr.mono (by decide)) rfl T.g_l_take T.F_l_take.kp T.b_l_take .nil passL (pa_cons (pv 0) (pa_cons (pe_op op_add (pv 5) pe_int) pa_nil))) pa_nil)) (blkOk_by (own := [("_law_k", 8)]) (N := ["_law_pen_here", "_law_rows", "_law_kinds", "_law_mode", "_law_target", "_law_cap", "_law_numbers_here", "_law_at", "_law_k"]) (sc := defScope s_l_value) (by decide +kernel)) (fun _ _ _ _ _ => pg_name (i := 8) sc_l_value.nd rfl (Or.inl rfl)) (fun _ _ _ _ _ => pts_nil) (fun _ _ _ _ _ => (pe_ix (ix_list : IxR _ (rIxL K)) (pv 6) (pe_call (ok_l_take T) (hr.mono (by decide)) rfl T.g_l_take T.F_l_take.kp T.b_l_take .nil passL (pa_cons (pv 0) (pa_cons (pe_callB (c_len : CallR _ (.builtin "len") (rLen K)) (by rfl) T.n_len PySem.boot_len (pa_cons (pv 6) pa_nil)) pa_nil))) (fun _ _ => rfl))))))))), ?_⟩
  rw [show L2.start ["_law_pen_here", "_law_rows", "_law_kinds", "_law_mode", "_law_target", "_law_cap", "_law_numbers_here", "_law_at", "_law_k"] [V.ref p, V.ref L, V.ref kL, V.str m, V.str t, V.int cap] = [some (V.ref p), some (V.ref L), some (V.ref kL), some (V.str m), some (V.str t), some (V.int cap), none, none, none] from rfl]
  walk_at "w_go"
  refine ⟨L, kL, rows, ks, t, rfl, hR, hok, eK, hl, fun u H1 s1 n1 e1 => ?_⟩
  have hp1 := hp.same s1
  have hlt : (targF rows ks t).length ≤ 1000 := by
    unfold targF
    refine Nat.le_trans (List.length_filter_le _ _) ?_
    rw [List.length_range]
    exact hl
  have pn1 : PenStep p c H H1 := (PenStep.refl hp).same s1
  by_cases hm1 : m = "one"
  · subst hm1
    walk_at "w_go"
    rw [numsV_len]
    refine r_take hp1 (by omega) (by omega) (fun r H2 a0 a1 s2 => ?_)
    obtain ⟨k, rfl⟩ := Int.eq_ofNat_of_zero_le a0
    have e2 := s2.at hp1 e1 rfl
    walk_at "w_go"
    rw [numsV_len]
    by_cases hk : k = (targF rows ks t).length
    · refine iteT' (decide_eq_true (by rw [hk])) ?_
      walk_at "w_go"
      exact q (.one none) _ H2 (pn1.trans s2) rfl rfl (by simp [FV.nums])
    · have hk2 : k < (targF rows ks t).length := by omega
      obtain ⟨n, hn⟩ : ∃ n, (targF rows ks t)[k]? = some n := ⟨_, List.getElem?_eq_getElem hk2⟩
      refine iteF' (decide_eq_false (fun z => hk (by omega))) ?_
      walk_at "w_go"
      refine r_ixLK e2 (numsV_at hn) ?_
      exact q (.one (some n)) _ H2 (pn1.trans s2) rfl (by simp [fvB, targ_mem (List.mem_of_getElem? hn)]) (by simp [FV.nums])
  · walk_at "w_go"
    refine iteF' (decide_eq_false hm1) ?_
    walk_at "w_go"
    rw [numsV_len]
    by_cases h0 : (targF rows ks t).length = 0
    · refine iteT' (by simp [h0]) ?_
      walk_at "w_go"
      rename_i q3 H3 n3 s3 e3
      exact q (.many []) _ H3 (pn1.same s3) ⟨q3, rfl, s1.free n3, .inl e3⟩ (by simp [fvB, hm1]) (by simp [FV.nums])
    · refine iteF' (decide_eq_false (fun z => h0 (by omega))) ?_
      walk_at "w_go"
      refine r_take hp1 (by omega) (by omega) (fun r H2 a0 a1 s2 => ?_)
      obtain ⟨k, rfl⟩ := Int.eq_ofNat_of_zero_le a0
      have e2 := s2.at hp1 e1 rfl
      have pn2 := pn1.trans s2
      walk_at "w_go"
      refine ⟨k, rfl, by omega, by omega, ?_⟩
      rw [Int.toNat_natCast]
      intro D hD
      have nD : H D = none := pn2.free hD
      have nuD : u ≠ D := ne_of_none e2 hD
      refine lc_range (lo := 0) (n := k) (fun j H' => PenStep p c H H' ∧ H' u = some (.lst (numsV (targF rows ks t))) ∧ ∃ l : List Nat, H' D = some (.lst (numsV l)) ∧ l.length = j ∧ ∀ n, n ∈ l → n ∈ targF rows ks t) ⟨pn2.put hp nD, ?_, [], upd_same, rfl, fun n hn => by cases hn⟩ ?_ ?_
      · rw [upd_ne (ne_of_none e2 hD)]
        exact e2
      · rintro j H5 hj ⟨hs5, eu5, l, e5, hlj, hn5⟩
        clear e2 e1 eK
        refine ⟨wipe_set1, ?_⟩
        walk_at "w_go"
        rw [numsV_len]
        refine r_take hs5.pen (by omega) (by omega) (fun r H6 b0 b1 s6 => ?_)
        obtain ⟨i, rfl⟩ := Int.eq_ofNat_of_zero_le b0
        have eu6 := s6.at hs5.pen eu5 rfl
        have e6 := s6.at hs5.pen e5 rfl
        obtain ⟨n, hn⟩ : ∃ n, (targF rows ks t)[i]? = some n := ⟨_, List.getElem?_eq_getElem (by omega)⟩
        refine r_ixLK eu6 (numsV_at hn) ?_
        refine ⟨_, e6, by rw [PySem.sizeLine_eq, numsV_len]; omega, (hs5.trans s6).put hp nD, (upd_ne nuD).trans eu6, l ++ [n], ?_, by simp [hlj], fun m hm => ?_⟩
        · rw [upd_same]
          unfold numsV
          rw [List.map_append]
          rfl
        · rcases List.mem_append.mp hm with z | z
          · exact hn5 m z
          · simp only [List.mem_cons, List.not_mem_nil, or_false] at z
            rw [z]
            exact List.mem_of_getElem? hn
      · rintro H5 ⟨hs5, eu5, l, e5, hlj, hn5⟩
        exact q (.many l) _ H5 hs5 ⟨D, rfl, nD, .inl e5⟩ (by
          simp only [fvB, hm1, decide_false, Bool.not_false, Bool.true_and, List.all_eq_true]
          exact fun n hn => targ_mem (hn5 n hn)) (by simp only [FV.nums]; omega)
end
end Wm
namespace Wm
open PySem L2

section
variable {P : Program} {w : World} {K : PySem.W.Frag} {mg : Str → Option Value} {base : Heap} {ad : Ad}
theorem ok_l_is_integer (T : Txt P K mg ad) : FnOk P w K mg base (L2.CX P w) 2 ad.l_is_integer ad.fd_l_is_integer ["_law_thing"] spIsInt := by
  refine T.F_l_is_integer.okX sc_l_is_integer (fun vs H Q E h => ?_) (fun cdv A outer s H vs Q E hr h => ?_)
  · obtain ⟨v, b, rfl, _⟩ := h
    rfl
  obtain ⟨v, b, rfl, hv, q⟩ := h
  refine ⟨_, (pss_one (ps_ret (pe_and (pe_callB call_isi (by rfl) T.n_isinstance (by decide +kernel) (pa_cons (pv 0) (pa_cons (pe_bltn (v := .ty "int") (by rfl) T.n_int (by decide +kernel) rfl) pa_nil))) (pe_one (pe_not (pe_callB call_isi (by rfl) T.n_isinstance (by decide +kernel) (pa_cons (pv 0) (pa_cons (pe_bltn (v := .ty "bool") (by rfl) T.n_bool (by decide +kernel) rfl) pa_nil)))))))), ?_⟩
  rw [show L2.start ["_law_thing"] [v] = [some (v)] from rfl]
  obtain ⟨ty, b1, c1, h1, h2, h3, h4⟩ := hv.kInt (K := K)
  walk_at "w_go"
  refine r_isi h1 h2 ?_
  walk_at "w_go"
  cases b1
  · refine iteF' rfl ?_
    cases h4
    exact q
  · refine iteT' rfl ?_
    walk_at "w_go"
    refine r_isi h1 h3 ?_
    walk_at "w_go"
    cases h4
    cases c1 <;> exact q
theorem ok_l_copied (T : Txt P K mg ad) : FnOk P w K mg base (L2.CX P w) 2 ad.l_copied ad.fd_l_copied ["_law_value_here"] spLCopied := by
  refine T.F_l_copied.okX sc_l_copied (fun vs H Q E h => ?_) (fun cdv A outer s H vs Q E hr h => ?_)
  · obtain ⟨F, x, v, rfl, _⟩ := h
    rfl
  obtain ⟨F, x, v, rfl, hx, q⟩ := h
  refine ⟨_, (pss_cons (ps_if (pt_val (pe_callB call_isi (by rfl) T.n_isinstance (by decide +kernel) (pa_cons (pv 0) (pa_cons (pe_bltn (v := .ty "list") (by rfl) T.n_list (by decide +kernel) rfl) pa_nil)))) (pss_one (ps_ret (pe_callTy c_list (by rfl) T.n_list (by decide +kernel) (pa_cons (pv 0) pa_nil)))) pss_nil)
    (pss_one (ps_ret (pv 0)))), ?_⟩
  rw [show L2.start ["_law_value_here"] [v] = [some (v)] from rfl]
  rcases x with (_ | n) | l
  · cases hx
    walk_at "w_go"
    refine r_isi (.base .non) rfl ?_
    walk_at "w_go"
    refine iteF' rfl ?_
    walk_at "w_go"
    exact q _ H (Same.refl _) rfl
  · cases hx
    walk_at "w_go"
    refine r_isi (.base (.int _)) rfl ?_
    walk_at "w_go"
    refine iteF' rfl ?_
    walk_at "w_go"
    exact q _ H (Same.refl _) rfl
  · obtain ⟨a, rfl, f, e | ⟨hb, e⟩⟩ := hx
    · walk_at "w_go"
      refine r_isi (.base (.lst e)) rfl ?_
      walk_at "w_go"
      rename_i q1 H1 n1 s1 e1
      exact q _ H1 s1 ⟨q1, rfl, n1, .inl e1⟩
    · cases hb
theorem ok_l_numbers (T : Txt P K mg ad) : FnOk P w K mg base (L2.CX P w) 2 ad.l_numbers ad.fd_l_numbers ["_law_value_here"] spNums := by
  refine T.F_l_numbers.okX sc_l_numbers (fun vs H Q E h => ?_) (fun cdv A outer s H vs Q E hr h => ?_)
  · obtain ⟨F, x, v, rfl, _⟩ := h
    rfl
  obtain ⟨F, x, v, rfl, hx, q⟩ := h
  refine ⟨_, (pss_cons (ps_if (pt_cmpR op_isNn (pv 0) pe_non (nomark _)) (pss_one (ps_ret (pe_lst pa_nil))) pss_nil)
    (pss_cons (ps_if (pt_val (pe_callB call_isi (by rfl) T.n_isinstance (by decide +kernel) (pa_cons (pv 0) (pa_cons (pe_bltn (v := .ty "list") (by rfl) T.n_list (by decide +kernel) rfl) pa_nil)))) (pss_one (ps_ret (pe_callTy c_list (by rfl) T.n_list (by decide +kernel) (pa_cons (pv 0) pa_nil)))) pss_nil)
    (pss_one (ps_ret (pe_lst (pa_cons (pv 0) pa_nil)))))), ?_⟩
  rw [show L2.start ["_law_value_here"] [v] = [some (v)] from rfl]
  rcases x with (_ | n) | l
  · cases hx
    walk_at "w_go"
    rename_i q1 H1 n1 s1 e1
    exact q q1 H1 s1 n1 e1
  · cases hx
    walk_at "w_go"
    refine iteF' (decide_eq_false (fun z => by cases z)) ?_
    walk_at "w_go"
    refine r_isi (.base (.int _)) rfl ?_
    walk_at "w_go"
    refine iteF' rfl ?_
    walk_at "w_go"
    rename_i q1 H1 n1 s1 e1
    exact q q1 H1 s1 n1 e1
  · obtain ⟨a, rfl, f, e | ⟨hb, e⟩⟩ := hx
    · walk_at "w_go"
      refine iteF' (decide_eq_false (fun z => by cases z)) ?_
      walk_at "w_go"
      refine r_isi (.base (.lst e)) rfl ?_
      walk_at "w_go"
      rename_i q1 H1 n1 s1 e1
      exact q q1 H1 s1 n1 e1
    · cases hb
theorem ok_l_held (T : Txt P K mg ad) : FnOk P w K mg base (L2.CX P w) 4 ad.l_held ad.fd_l_held ["_law_rows", "_law_row"] spLHeld := by
  refine T.F_l_held.okX sc_l_held (fun vs H Q E h => ?_) (fun cdv A outer s H vs Q E hr h => ?_)
  · obtain ⟨L, rows, F, t, v, rfl, _⟩ := h
    rfl
  obtain ⟨L, rows, F, t, v, rfl, hR, hok, hx, hk, hl, q⟩ := h
  obtain ⟨a, d, kvs, rfl, fa, ea, hd⟩ := hx
  refine ⟨_, (pss_cons (ps_set (i := 2) sc_l_held.nd rfl (Or.inl rfl) (pe_lst pa_nil))
    (pss_cons (ps_for (passes_of rfl) rfl (pi_list (pe_call (ok_l_fields T) hr rfl T.g_l_fields T.F_l_fields.kp T.b_l_fields .nil passL (pa_cons (pv 0) (pa_cons (pe_ix ix_tup (pv 1) pe_int (fun _ _ => rfl)) pa_nil)))) (pg_name (i := 3) sc_l_held.nd rfl (Or.inl rfl)) (pss_one (ps_expr (pe_bm PySem.F.plainAttrs_list PySem.F.slot_list_extend PySem.F.type_list_extend mt_extend (pv 2) (pa_cons (pe_call (ok_l_numbers T) (hr.mono (by decide)) rfl T.g_l_numbers T.F_l_numbers.kp T.b_l_numbers .nil passL (pa_cons (pe_dget (hu_of hr) (pe_ix ix_tup (pv 1) pe_int (fun _ _ => rfl)) (pe_ix ix_tup (pv 3) pe_int (fun _ _ => rfl)) (fun _ _ => rfl)) pa_nil)) pa_nil)))))
    (pss_one (ps_ret (pv 2))))), ?_⟩
  rw [show L2.start ["_law_rows", "_law_row", "_law_found", "_law_field"] [V.ref L, V.ref a] = [some (V.ref L), some (V.ref a), none, none] from rfl]
  walk_at "w_go"
  rename_i q1 H1 n1 s1 e1
  have ea1 := s1 _ _ ea
  walk_at "w_go"
  refine ⟨L, rows, _, t.kind, rfl, hR.same s1, hok.ok, hok.few, hk, fun fL H2 s2 n2 hF => ?_⟩
  have s02 := s1.trans s2
  obtain ⟨fvs, eF, hfv⟩ := hF
  have e2 := s2 _ _ e1
  have eF2 := eF
  have hlen := hfv.len
  obtain ⟨hl1, hl2⟩ := hd.len
  have ndk := fields_names hok hk
  walk_at "w_go"
  refine r_ilK (.of eF) (for_list (K := K) (a := fL) (xs := fvs) (fun i σ H' => ∃ (v3 : Option V), σ = [some (.ref L), some (.ref a), some (.ref q1), v3] ∧ Same H H' ∧ H' fL = some (.lst fvs) ∧ Tx H2 H' ∧ H' q1 = some (.lst (numsV ((t.vals.take i).flatMap FV.nums)))) ⟨_, rfl, s02, eF, Tx.refl _, e2⟩ ?_ ?_ ?_)
  · rintro i σ H' _ ⟨v3, rfl, _, e, _⟩
    exact .of e
  · rintro i x σ H3 hi ⟨v3, rfl, s3, eF3, t3, e3⟩
    obtain ⟨f, hf, fa2, rfl, ef⟩ := hfv.right hi
    obtain ⟨x, hx⟩ : ∃ x, t.vals[i]? = some x := ⟨_, List.getElem?_eq_getElem (by have := (List.getElem?_eq_some_iff.mp hf).1; omega)⟩
    obtain ⟨kv, hkv, hk1, hk2⟩ := hd.at hf hx
    have hval : valV kvs (.inr f.1) = some kv.2 := by
      rw [← hk1]
      exact valV_at (by
        rw [hd.keys]
        exact List.pairwise_map.mpr ((List.pairwise_map.mp ndk).imp fun h z => h (Sum.inr.inj z))) hkv
    have ef3 := t3 _ _ ef
    have ea3 := s3 _ _ ea
    have ed3 := s3 _ _ hd.at_
    walk_at "w_go"
    refine r_dgetK ed3 hval ?_
    walk_at "w_go"
    refine ⟨F, x, kv.2, rfl, hk2.kps (.of s3), fun q4 H4 s4 n4 e4 => ?_⟩
    have hle : ((t.vals.take i).flatMap FV.nums).length + x.nums.length ≤ 100000 := by
      have e : heldT t = (t.vals.take i).flatMap FV.nums ++ (x.nums ++ (t.vals.drop (i + 1)).flatMap FV.nums) := by
        unfold heldT
        have e0 : t.vals = t.vals.take i ++ x :: t.vals.drop (i + 1) := by
          obtain ⟨hi', hx'⟩ := List.getElem?_eq_some_iff.mp hx
          rw [← hx', ← List.drop_eq_getElem_cons hi', List.take_append_drop]
        conv => lhs; rw [e0]
        rw [List.flatMap_append, List.flatMap_cons]
      have := congrArg List.length e
      rw [List.length_append, List.length_append] at this
      omega
    have e34 := s4 _ _ e3
    have n1q : q4 ≠ q1 := fun z => by
      rw [z, e3] at n4
      cases n4
    walk_at "w_go"
    have nfq : fL ≠ q1 := fun z => by
      rw [z, e1] at n2
      cases n2
    refine r_extend e34 e4 (by rw [PySem.sizeLine_eq, numsV_len, numsV_len]; omega) ?_
    refine ⟨_, rfl, same_put (s3.trans s4) n1, (upd_ne nfq).trans (s4 _ _ eF3), (t3.trans (tx_same s4)).trans (tx_lst e34), ?_⟩
    rw [upd_same, take_snoc hx, List.flatMap_append]
    unfold numsV
    rw [List.map_append]
    simp
  · rintro σ H3 ⟨v3, rfl, s3, eF3, t3, e3⟩
    walk_at "w_go"
    rw [← hlen, hl1, List.take_length] at e3
    exact q q1 H3 s3 n1 e3
theorem ok_l_size (T : Txt P K mg ad) : FnOk P w K mg base (L2.CX P w) 5 ad.l_size ad.fd_l_size ["_law_rows", "_law_things"] spLSize := by
  refine T.F_l_size.okX sc_l_size (fun vs H Q E h => ?_) (fun cdv A outer s H vs Q E hr h => ?_)
  · obtain ⟨L, T, rows, F, ts, rfl, _⟩ := h
    rfl
  obtain ⟨L, T2, rows, F, ts, rfl, hR, hok, hT, hkn, hl, q⟩ := h
  obtain ⟨vs, fT, eT, hvs⟩ := hT
  refine ⟨_, (pss_cons (ps_set (i := 2) sc_l_size.nd rfl (Or.inl rfl) (pe_callB c_len (by rfl) T.n_len PySem.boot_len (pa_cons (pv 1) pa_nil)))
    (pss_cons (ps_for (passes_of rfl) rfl (pi_list (pv 1)) (pg_name (i := 3) sc_l_size.nd rfl (Or.inl rfl)) (pss_one (ps_set (i := 2) sc_l_size.nd rfl (Or.inl rfl) (pe_op op_add (pv 2) (pe_callB c_len (by rfl) T.n_len PySem.boot_len (pa_cons (pe_call (ok_l_held T) hr rfl T.g_l_held T.F_l_held.kp T.b_l_held .nil passL (pa_cons (pv 0) (pa_cons (pv 3) pa_nil))) pa_nil))))))
    (pss_one (ps_ret (pv 2))))), ?_⟩
  rw [show L2.start ["_law_rows", "_law_things", "_law_total", "_law_row"] [V.ref L, V.ref T2] = [some (V.ref L), some (V.ref T2), none, none] from rfl]
  have hlen := hvs.len
  walk_at "w_go"
  refine r_ilK (.of eT) (for_list (K := K) (a := T2) (xs := vs) (fun i σ H' => ∃ (v3 : Option V), σ = [some (.ref L), some (.ref T2), some (.int ((vs.length : Nat) + (((ts.take i).map fun t => (heldT t).length).sum : Nat))), v3] ∧ Same H H') ⟨_, rfl, Same.refl _⟩ ?_ ?_ ?_)
  · rintro i σ H' _ ⟨v3, rfl, s3⟩
    exact .of (s3 _ _ eT)
  · rintro i x σ H3 hi ⟨v3, rfl, s3⟩
    obtain ⟨t, ht, hrow⟩ := hvs.right hi
    have hle := held_le (List.mem_of_getElem? ht)
    walk_at "w_go"
    refine ⟨L, rows, F, t, x, rfl, hR.same s3, hok, hrow.kps (.of s3), hkn t (List.mem_of_getElem? ht), by omega, fun q4 H4 s4 n4 e4 => ?_⟩
    walk_at "w_go"
    refine ⟨some x, ?_, s3.trans s4⟩
    rw [take_snoc ht, List.map_append, List.sum_append, numsV_len]
    simp
    omega
  · rintro σ H3 ⟨v3, rfl, s3⟩
    walk_at "w_go"
    rw [← hlen, List.take_length]
    exact q H3 s3
end
end Wm
namespace Wm
open PySem L2

section
variable {P : Program} {w : World} {K : PySem.W.Frag} {mg : Str → Option Value} {base : Heap} {ad : Ad}
theorem ok_l_shows (T : Txt P K mg ad) : FnOk P w K mg base (L2.CX P w) 6 ad.l_shows ad.fd_l_shows ["_law_graph", "_law_rows", "_law_things", "_law_root_due"] (spLShows ad.Graph) := by
  refine T.F_l_shows.okX sc_l_shows (fun vs H Q E h => ?_) (fun cdv A outer s H vs Q E hr h => ?_)
  · obtain ⟨g, S, L, T, rows, F, G, ts, root, rfl, _⟩ := h
    rfl
  obtain ⟨g, S, L, TL, rows, F, G, ts, root, rfl, hR, hok, hG, hT, hO, q⟩ := h
  have hG0 := hG
  obtain ⟨dx, tl, ads, hin⟩ := hG0
  obtain ⟨vs, fT, eT, hvs⟩ := hT
  have hlen := hvs.len
  refine ⟨_, (pss_cons (ps_if (PW.pt (pw_or (pt_cmpR op_ne (pe_callB (c_lenOwn (ok_Graph_len T) (hr.mono (by decide)) T.me_Graph_len T.b_Graph_len passL) (by rfl) T.n_len PySem.boot_len (pa_cons (pv 0) pa_nil)) (pe_callB c_len (by rfl) T.n_len PySem.boot_len (pa_cons (pv 2) pa_nil)) (nomark _)) (pw_or (pt_cmpR op_ne (pe_prop (pv 0) T.ow_Graph.cl T.pp_Graph_size (ok_Graph_size T) (hr.mono (by decide)) T.b_Graph_size .nil passL rfl) (pe_call (ok_l_size T) hr rfl T.g_l_size T.F_l_size.kp T.b_l_size .nil passL (pa_cons (pv 1) (pa_cons (pv 2) pa_nil))) (nomark _)) (pw_or1 (pt_cmpR op_ne (pe_prop (pv 0) T.ow_Graph.cl T.pp_Graph_root (ok_Graph_root T) (hr.mono (by decide)) T.b_Graph_root .nil passL rfl) (pv 3) (nomark _)))))) (pss_one (ps_ret pe_bl)) pss_nil)
    (pss_cons (ps_if (PW.pt (pw_or (pt_not (pt_val (pe_call (ok_l_is_integer T) (hr.mono (by decide)) rfl T.g_l_is_integer T.F_l_is_integer.kp T.b_l_is_integer .nil passL (pa_cons (pe_prop (pv 0) T.ow_Graph.cl T.pp_Graph_size (ok_Graph_size T) (hr.mono (by decide)) T.b_Graph_size .nil passL rfl) pa_nil)))) (pw_or1 (pt_not (pt_val (pe_call (ok_l_is_integer T) (hr.mono (by decide)) rfl T.g_l_is_integer T.F_l_is_integer.kp T.b_l_is_integer .nil passL (pa_cons (pe_prop (pv 0) T.ow_Graph.cl T.pp_Graph_root (ok_Graph_root T) (hr.mono (by decide)) T.b_Graph_root .nil passL rfl) pa_nil))))))) (pss_one (ps_ret pe_bl)) pss_nil)
    (pss_cons (ps_set (i := 4) sc_l_shows.nd rfl (Or.inl rfl) (pe_meth0 (pv 0) T.ow_Graph.cl T.me_Graph_all_rows (ok_Graph_all_rows T) hr T.b_Graph_all_rows .nil passL))
    (pss_cons (ps_if (PW.pt (pw_or (pt_not (pt_val (pe_callB call_isi (by rfl) T.n_isinstance (by decide +kernel) (pa_cons (pv 4) (pa_cons (pe_bltn (v := .ty "list") (by rfl) T.n_list (by decide +kernel) rfl) pa_nil))))) (pw_or1 (pt_cmpR (op_neH hr.units0) (pv 4) (pv 2) (nomark _))))) (pss_one (ps_ret pe_bl)) pss_nil)
    (pss_cons (ps_for (passes_of rfl) rfl (pi_list (pv 4)) (pg_name (i := 5) sc_l_shows.nd rfl (Or.inl rfl)) (pss_cons (ps_if (PW.pt (pw_or (pt_not (pt_val (pe_callB call_isi (by rfl) T.n_isinstance (by decide +kernel) (pa_cons (pv 5) (pa_cons (pe_bltn (v := .ty "tuple") (by rfl) T.n_tuple (by decide +kernel) rfl) pa_nil))))) (pw_or (pt_not (pt_val (pe_callB call_isi (by rfl) T.n_isinstance (by decide +kernel) (pa_cons (pe_ix ix_tup (pv 5) pe_int (fun _ _ => rfl)) (pa_cons (pe_bltn (v := .ty "dict") (by rfl) T.n_dict (by decide +kernel) rfl) pa_nil))))) (pw_or1 (pt_val (pe_callB call_isi (by rfl) T.n_isinstance (by decide +kernel) (pa_cons (pe_ix ix_tup (pv 5) pe_int (fun _ _ => rfl)) (pa_cons (pe_bltn (v := .ty "bool") (by rfl) T.n_bool (by decide +kernel) rfl) pa_nil)))))))) (pss_one (ps_ret pe_bl)) pss_nil)
    (pss_one (ps_if (pt_cmpR (op_neP hr.units) (pe_lock (pe_lc (own := [("_law_name", 6)]) (g := gName 6) (tt := tYes) rfl sc_l_shows.nd (pi_keys (pe_ix ix_tup (pv 5) pe_int (fun _ _ => rfl))) (blkOk_by (own := [("_law_name", 6)]) (N := ["_law_graph", "_law_rows", "_law_things", "_law_root_due", "_law_told", "_law_row", "_law_name", "_law_field"]) (sc := defScope s_l_shows) (by decide +kernel)) (fun _ _ _ _ _ => pg_name (i := 6) sc_l_shows.nd rfl (Or.inl rfl)) (fun _ _ _ _ _ => pts_nil) (fun _ _ _ _ _ => (pv 6)))) (pe_lc (own := [("_law_field", 7)]) (g := gName 7) (tt := tYes) rfl sc_l_shows.nd (pi_list (pe_call (ok_l_fields T) (hr.mono (by decide)) rfl T.g_l_fields T.F_l_fields.kp T.b_l_fields .nil passL (pa_cons (pv 1) (pa_cons (pe_ix ix_tup (pv 5) pe_int (fun _ _ => rfl)) pa_nil)))) (blkOk_by (own := [("_law_field", 7)]) (N := ["_law_graph", "_law_rows", "_law_things", "_law_root_due", "_law_told", "_law_row", "_law_name", "_law_field"]) (sc := defScope s_l_shows) (by decide +kernel)) (fun _ _ _ _ _ => pg_name (i := 7) sc_l_shows.nd rfl (Or.inl rfl)) (fun _ _ _ _ _ => pts_nil) (fun _ _ _ _ _ => (pe_ix (ix_tup : IxR _ (rIxT K)) (pv 7) pe_int (fun _ _ => rfl)))) (nomark _)) (pss_one (ps_ret pe_bl)) pss_nil))))
    (pss_one (ps_ret pe_bl))))))), ?_⟩
  rw [show L2.start ["_law_graph", "_law_rows", "_law_things", "_law_root_due", "_law_told", "_law_row", "_law_name", "_law_field"] [V.ref g, V.ref L, V.ref TL, V.int root] = [some (V.ref g), some (V.ref L), some (V.ref TL), some (V.int root), none, none, none, none] from rfl]
  have cl := T.ow_Graph.cl
  have eG := hin.at_
  walk_at "w_go"
  refine r_lenOwn eG ⟨g, S, F, rows, ts, root, rfl, hG, ?_⟩
  have hfew := hO.few
  have hheld := hO.held
  have hkn : ∀ t, t ∈ ts → t.kind ∈ names rows := fun t ht => conc_names (hO.ok t ht).kd
  refine ⟨_, rfl, by omega, by omega, ?_⟩
  walk_at "w_go"
  rw [← hlen]
  refine iteF' (by simp) ?_
  walk_at "w_go"
  refine ⟨g, S, F, rows, ts, root, rfl, hG, ?_⟩
  walk_at "w_go"
  refine ⟨L, TL, rows, G, ts, rfl, hR, hok, ⟨vs, fT, eT, hvs⟩, hkn, by omega, fun H1 s1 => ?_⟩
  have hG1 := hG.kps (.of s1)
  have eG1 := s1 _ _ eG
  have hT1 : ThsR G false H1 rows ts TL := ThsR.kps ⟨vs, fT, eT, hvs⟩ (.of s1)
  have hR1 := hR.same s1
  clear hG hR hvs hin eG eT
  walk_at "w_go"
  refine ⟨g, S, F, rows, ts, root, rfl, hG1, ?_⟩
  walk_at "w_go"
  refine ⟨g, S, F, rows, ts, root, rfl, hG1, ?_⟩
  walk_at "w_go"
  refine ⟨.int _, true, rfl, .int _, ?_⟩
  walk_at "w_go"
  refine ⟨g, S, F, rows, ts, root, rfl, hG1, ?_⟩
  walk_at "w_go"
  refine ⟨.int _, true, rfl, .int _, ?_⟩
  walk_at "w_go"
  refine ⟨g, S, F, rows, ts, root, rfl, hG1, hok, hkn, by omega, fun tL H2 s2 hTold => ?_⟩
  have hT2 := hT1.kps (.of s2)
  have hTold0 := hTold
  obtain ⟨ws, fw, ew, hws⟩ := hTold
  walk_at "w_go"
  refine r_isi (.base (.lst ew)) rfl ?_
  walk_at "w_go"
  refine r_neH (ThsR.rcH hok hTold0 hT2 hkn (Nat.lt_of_le_of_lt (Nat.add_le_add_left (by decide) _) hr.units)) ?_
  walk_at "w_go"
  have s02 := s1.trans s2
  have hR2 := hR1.same s2
  have hwl := hws.len
  refine r_ilK (.of ew) (for_list (K := K) (a := tL) (xs := ws) (fun i σ H' => ∃ (v5 v6 v7 : Option V), σ = [some (.ref g), some (.ref L), some (.ref TL), some (.int root), some (.ref tL), v5, v6, v7] ∧ Same H2 H') ⟨_, _, _, rfl, Same.refl _⟩ ?_ ?_ ?_)
  · rintro i σ H' _ ⟨v5, v6, v7, rfl, s3⟩
    exact .of (s3 _ _ ew)
  · rintro i x σ H3 hi ⟨v5, v6, v7, rfl, s3⟩
    obtain ⟨t, ht, hrow⟩ := hws.right hi
    obtain ⟨a, d, kvs, rfl, fa, ea, hd⟩ := hrow.kps (.of s3)
    have htk := hkn t (List.mem_of_getElem? ht)
    have ed := hd.at_
    walk_at "w_go"
    refine r_isi (.base (.tup ea)) rfl ?_
    walk_at "w_go"
    refine r_isi (.base (.dK ed)) rfl ?_
    walk_at "w_go"
    refine r_isi (.base (.int _)) rfl ?_
    walk_at "w_go"
    refine iteF' rfl ?_
    walk_at "w_go"
    have hkl : kvs.map (·.1) = ((fieldsF rows t.kind).map (·.1)).map Sum.inr := by
      rw [hd.keys, List.map_map]
      rfl
    obtain ⟨hl1, hl2⟩ := hd.len
    have hfl := fields_len hok.ok htk
    refine r_keysC ed hkl (by omega) (by simp) (fun R od hR => ?_) (fun q4 H4 s4 n4 e4 => ?_)
    · have nad : a ≠ d := fun z => by
        rw [z, ed] at ea
        cases ea
      have eaz : (upd H3 d (.frz od (.dK kvs))) a = _ := (upd_ne nad).trans ea
      walk_at "w_go"
      exact hR
    have ea4 := s4 _ _ ea
    walk_at "w_go"
    refine ⟨L, rows, _, t.kind, rfl, hR2.same (s3.trans s4), hok.ok, hok.few, htk, fun fL H5 s5 n5 hF => ?_⟩
    obtain ⟨fvs, eF, hfv⟩ := hF
    have hlen5 := hfv.len
    have e45 := s5 _ _ e4
    walk_at "w_go"
    refine r_ilK (.of eF) ?_
    refine r_lcW walk_list (fieldsF rows t.kind) hlen5 (fun _ => true) (fun f y _ => y = V.str f.1) (fun _ _ _ _ h _ => h) (fun _ s => .of (s _ _ eF)) (by rw [PySem.sizeLine_eq]; omega) (fun D j f y Hi Hj acc Kt Kf hD ha sI eD yy kt kf => ?_) (fun q6 ys H6 n6 s6 e6 hr6 => ?_)
    · obtain ⟨rfl, hx⟩ := yy
      obtain ⟨y', hy', fa2, rfl, ef⟩ := hfv.left ha
      rw [hx] at hy'
      cases hy'
      have ef2 := sI _ _ ef
      refine ⟨wipe_set1, ?_⟩
      walk_at "w_go"
      exact kt rfl _ _ (Same.refl _) rfl
    · rw [List.filter_eq_self.mpr (fun _ _ => rfl)] at hr6
      have hys := all2_map hr6
      have e46 := s6 _ _ e45
      walk_at "w_go"
      refine r_neSE ((fieldsF rows t.kind).map (·.1)) e46 e6 rfl (by rw [hys, List.map_map]; rfl) ?_
      walk_at "w_go"
      exact ⟨_, _, _, rfl, ((s3.trans s4).trans s5).trans s6⟩
  · rintro σ H3 ⟨v5, v6, v7, rfl, s3⟩
    walk_at "w_go"
    exact q H3 (s02.trans s3)
end
end Wm
namespace Wm
open PySem L2

section
variable {P : Program} {w : World} {K : PySem.W.Frag} {mg : Str → Option Value} {base : Heap} {ad : Ad}
theorem ok_l_empty (T : Txt P K mg ad) : FnOk P w K mg base (L2.CX P w) 2 ad.l_empty ad.fd_l_empty ["_law_mode"] spLEmpty := by
  refine T.F_l_empty.okX sc_l_empty (fun vs H Q E h => ?_) (fun cdv A outer s H vs Q E hr h => ?_)
  · obtain ⟨m, rfl, _⟩ := h
    rfl
  obtain ⟨m, rfl, q⟩ := h
  refine ⟨_, (pss_cons (ps_if (pt_cmpR op_eq (pv 0) pe_str (nomark _)) (pss_one (ps_ret pe_non)) pss_nil)
    (pss_one (ps_ret (pe_lst pa_nil)))), ?_⟩
  rw [show L2.start ["_law_mode"] [V.str m] = [some (V.str m)] from rfl]
  walk_at "w_go"
  unfold emptyFV at q
  by_cases h : m = "one"
  · refine iteT' (by simp [h]) ?_
    walk_at "w_go"
    exact q _ H (Same.refl _) (by rw [if_pos h]; rfl)
  · refine iteF' (by simp [h]) ?_
    walk_at "w_go"
    rename_i q1 H1 n1 s1 e1
    exact q _ H1 s1 (by rw [if_neg h]; exact ⟨q1, rfl, n1, .inl e1⟩)
end
end Wm
namespace Wm
open PySem L2

section
variable {P : Program} {w : World} {K : PySem.W.Frag} {mg : Str → Option Value} {base : Heap} {ad : Ad}
theorem ok_Schema_eq (T : Txt P K mg ad) : FnOk P w K mg base (L2.CX P w) 2 ad.Schema_eq ad.fd_Schema_eq ["self", "other"] (spSEq ad.Kind ad.Schema) := by
  refine T.F_Schema_eq.okX sc_Schema_eq (fun vs H Q E h => ?_) (fun cdv A outer s H vs Q E hr h => ?_)
  · obtain ⟨S, O, rows, more, rfl, _⟩ := h
    rfl
  obtain ⟨S, O, rows, more, rfl, ⟨dx, rv, nv, dv, rvs, kvs, hin⟩, ⟨dx', rv', nv', dv', rvs', kvs', hin'⟩, q⟩ := h
  refine ⟨_, (pss_one (ps_ret (pe_and (pe_callB call_isi (by rfl) T.n_isinstance (by decide +kernel) (pa_cons (pv 1) (pa_cons (pe_glob (v := .ref ad.Schema) rfl T.g_Schema rfl) pa_nil))) (pe_one (pe_cmpR (op_eqP hr.units) (pe_fld (pv 0) rfl) (pe_fld (pv 1) rfl) (nomark _)))))), ?_⟩
  rw [show L2.start ["self", "other"] [V.ref S, V.ref O] = [some (V.ref S), some (V.ref O)] from rfl]
  have cl := T.ow_Schema.cl
  have f1 := T.no_Schema_rows
  have e1 := hin.at_
  have e2 := hin'.at_
  walk_at "w_go"
  refine r_isiO (T.ow_Schema.ty e2) T.ow_Schema.self ?_
  walk_at "w_go"
  refine r_eqT _ _ (dp_rowsT hin.rws hin.rall) (dp_rowsT hin'.rws hin'.rall) ?_
  simp only [PySem.W.Tup.mk.injEq]
  exact q
end
end Wm
namespace Wm
open PySem L2

section
variable {P : Program} {w : World} {K : PySem.W.Frag} {mg : Str → Option Value} {base : Heap} {ad : Ad}
theorem body_add (T : Txt P K mg ad) (cdv : Value) (A : Around) (outer : List Env) (s : Shared) (H : Hp) (vs : List V) (Q : L2.VK) (E : XK) (hr : Room 8 (A.deeper (PyProof.Rows.envOfC "Graph.add" (defScope s_Graph_add) s.heap.objs.size ad.Graph_add cdv))) (h : spGAdd ad.Kind ad.Schema ad.Graph ad.NoKind ad.BadTag ad.NoField ad.BadValue ad.TooMany vs H Q E) :
    ∃ t, PSs (cxOf (L2.CX P w) P w K mg base ["self", "kind", "tag", "fields", "described", "names", "name", "mode", "target", "owner", "kinds", "thing", "count"] "Graph.add" (defScope s_Graph_add) ad.Graph_add cdv A outer s H E) (defBody s_Graph_add) t ∧ t { nx := fun _ H' => Q .non H', rt := Q } (start ["self", "kind", "tag", "fields", "described", "names", "name", "mode", "target", "owner", "kinds", "thing", "count"] vs) H := by
  obtain ⟨g, S, d, F, rows, ts, root, kV, tV, kb, tb, kvs, ks, rfl, hG, hS, hok, hO, hk, ht, ed, hks, hnd, hkl, hval, qok, qnk, qbt, qnf, qbv, qtm, qrf⟩ := h
  refine ⟨_, (pss_cons (ps_if (pt_not (pt_val (pe_call (ok_is_concrete T) (hr.mono (by decide)) rfl T.g_is_concrete T.F_is_concrete.kp T.b_is_concrete .nil passL (pa_cons (pe_fld (pv 0) rfl) (pa_cons (pv 1) pa_nil))))) (pss_one (ps_raiseEr rfl T.er_NoKind hr (takes_of rfl rfl rfl rfl) T.g_NoKind (pa_cons (pv 1) pa_nil))) pss_nil)
    (pss_cons (ps_if (pt_not (pt_val (pe_call (ok_is_tag T) (hr.mono (by decide)) rfl T.g_is_tag T.F_is_tag.kp T.b_is_tag .nil passL (pa_cons (pv 2) pa_nil)))) (pss_one (ps_raiseEr rfl T.er_BadTag hr (takes_of rfl rfl rfl rfl) T.g_BadTag (pa_cons (pv 2) pa_nil))) pss_nil)
    (pss_cons (ps_set (i := 4) sc_Graph_add.nd rfl (Or.inl rfl) (pe_fld (pe_ixOwn (ok_Schema_getitem T) (hr.mono (by decide)) T.me_Schema_getitem (fun_in T.F_Schema_getitem) T.b_Schema_getitem (passes_call (takes_of rfl rfl rfl rfl) (fun _ _ _ _ h => h)) (pe_fld (pv 0) rfl) (pv 1) (fun _ _ => rfl)) rfl))
    (pss_cons (ps_setLc (i := 5) (own := [("name", 6), ("mode", 7), ("target", 8), ("owner", 9)]) (g := (gTup K 4 (gCons (gName 6) (gCons (gName 7) (gCons (gName 8) (gCons (gName 9) gNil)))))) (tt := tYes) rfl sc_Graph_add.nd rfl rfl (sw_true rfl rfl rfl (by decide +kernel)) (pi_tup (pv 4)) (blkOk_by (own := [("name", 6), ("mode", 7), ("target", 8), ("owner", 9)]) (N := ["self", "kind", "tag", "fields", "described", "names", "name", "mode", "target", "owner", "kinds", "thing", "count"]) (sc := defScope s_Graph_add) (by decide +kernel)) (fun _ _ _ _ _ => pg_tup rfl (pgs_cons (pg_name (i := 6) sc_Graph_add.nd rfl (Or.inl rfl)) (pgs_cons (pg_name (i := 7) sc_Graph_add.nd rfl (Or.inl rfl)) (pgs_cons (pg_name (i := 8) sc_Graph_add.nd rfl (Or.inl rfl)) (pgs_cons (pg_name (i := 9) sc_Graph_add.nd rfl (Or.inl rfl)) pgs_nil))))) (fun _ _ _ _ _ => pts_nil) (fun _ _ _ _ _ => (pv 6)))
    (pss_cons (ps_for (passes_of rfl) rfl (pi_list (pe_callB (call_sortedD rfl) (by rfl) T.n_sorted (by decide +kernel) (pa_cons (pv 3) pa_nil))) (pg_name (i := 6) sc_Graph_add.nd rfl (Or.inl rfl)) (pss_one (ps_if (pt_cmpR op_notIn_seq (pv 6) (pv 5) (by rfl)) (pss_one (ps_raiseEr rfl T.er_NoField hr (takes_of rfl rfl rfl rfl) T.g_NoField (pa_cons (pv 1) (pa_cons (pv 6) pa_nil)))) pss_nil)))
    (pss_cons (ps_setLc (i := 10) (own := [("thing", 11)]) (g := gName 11) (tt := tYes) rfl sc_Graph_add.nd rfl rfl (sw_true rfl rfl rfl (by decide +kernel)) (pi_list (pe_fld (pv 0) rfl)) (blkOk_by (own := [("thing", 11)]) (N := ["self", "kind", "tag", "fields", "described", "names", "name", "mode", "target", "owner", "kinds", "thing", "count"]) (sc := defScope s_Graph_add) (by decide +kernel)) (fun _ _ _ _ _ => pg_name (i := 11) sc_Graph_add.nd rfl (Or.inl rfl)) (fun _ _ _ _ _ => pts_nil) (fun _ _ _ _ _ => (pe_ix (ix_list : IxR _ (rIxL K)) (pv 11) pe_int (fun _ _ => rfl))))
    (pss_cons (ps_expr (pe_bm PySem.F.plainAttrs_list PySem.F.slot_list_append PySem.F.type_list_append mt_append (pv 10) (pa_cons (pv 1) pa_nil)))
    (pss_cons (ps_set (i := 12) sc_Graph_add.nd rfl (Or.inl rfl) pe_int)
    (pss_cons (ps_for (passes_of rfl) rfl (pi_tup (pv 4)) (pg_tup rfl (pgs_cons (pg_name (i := 6) sc_Graph_add.nd rfl (Or.inl rfl)) (pgs_cons (pg_name (i := 7) sc_Graph_add.nd rfl (Or.inl rfl)) (pgs_cons (pg_name (i := 8) sc_Graph_add.nd rfl (Or.inl rfl)) (pgs_cons (pg_name (i := 9) sc_Graph_add.nd rfl (Or.inl rfl)) pgs_nil))))) (pss_one (ps_if (pt_cmp (pc_din (hu_of hr) (pv 6) (pv 3))) (pss_cons (ps_if (pt_not (pt_val (pe_call (ok_is_value T) hr rfl T.g_is_value T.F_is_value.kp T.b_is_value .nil passL (pa_cons (pe_fld (pv 0) rfl) (pa_cons (pv 10) (pa_cons (pv 7) (pa_cons (pv 8) (pa_cons (pe_dget (hu_of hr) (pv 3) (pv 6) (fun _ _ => rfl)) pa_nil)))))))) (pss_one (ps_raiseEr rfl T.er_BadValue hr (takes_of rfl rfl rfl rfl) T.g_BadValue (pa_cons (pv 6) pa_nil))) pss_nil)
    (pss_one (ps_aug (i := 12) sc_Graph_add.nd rfl (Or.inl rfl) (pe_callB c_len (by rfl) T.n_len PySem.boot_len (pa_cons (pe_call (ok_numbers_in T) (hr.mono (by decide)) rfl T.g_numbers_in T.F_numbers_in.kp T.b_numbers_in .nil passL (pa_cons (pe_call (ok_kept_value T) (hr.mono (by decide)) rfl T.g_kept_value T.F_kept_value.kp T.b_kept_value .nil passL (pa_cons (pv 7) (pa_cons (pe_dget (hu_of hr) (pv 3) (pv 6) (fun _ _ => rfl)) pa_nil))) pa_nil)) pa_nil)) ip_add))) pss_nil)))
    (pss_cons (ps_if (pt_cmpR op_ge (pe_callB c_len (by rfl) T.n_len PySem.boot_len (pa_cons (pe_fld (pv 0) rfl) pa_nil)) (ClX.pe_cval (pe_glob (v := .ref ad.Graph) rfl T.g_Graph rfl)) (nomark _)) (pss_one (ps_raiseEr rfl T.er_TooMany hr (takes_of rfl rfl rfl rfl) T.g_TooMany (pa_cons pe_str pa_nil))) pss_nil)
    (pss_cons (ps_if (pt_cmpR op_gt (pe_op op_add (pe_fld (pv 0) rfl) (pv 12)) (ClX.pe_cval (pe_glob (v := .ref ad.Graph) rfl T.g_Graph rfl)) (nomark _)) (pss_one (ps_raiseEr rfl T.er_TooMany hr (takes_of rfl rfl rfl rfl) T.g_TooMany (pa_cons pe_str pa_nil))) pss_nil)
    (pss_cons (ps_expr (pe_meth (pv 0) T.ow_Graph.cl T.me_Graph_append_thing (ok_Graph_append_thing T) (hr.mono (by decide)) T.b_Graph_append_thing .nil (passes_call (takes_of rfl rfl rfl rfl) (fun _ _ _ _ h => h)) (pa_cons (pv 1) (pa_cons (pv 2) (pa_cons (pv 3) pa_nil)))))
    (pss_one (ps_ret (pe_op op_sub (pe_callB c_len (by rfl) T.n_len PySem.boot_len (pa_cons (pe_fld (pv 0) rfl) pa_nil)) pe_int))))))))))))))), ?_⟩
  rw [show L2.start ["self", "kind", "tag", "fields", "described", "names", "name", "mode", "target", "owner", "kinds", "thing", "count"] [V.ref g, kV, tV, V.ref d] = [some (V.ref g), some (kV), some (tV), some (V.ref d), none, none, none, none, none, none, none, none, none] from rfl]
  have cl := T.ow_Graph.cl
  have f1 := T.no_Graph_schema
  have f2 := T.no_Graph_things
  have f3 := T.no_Graph_held
  obtain ⟨dx, tl, ads, hin⟩ := id hG
  have eG := hin.at_
  walk_at "w_go"
  refine ⟨S, rows, kV, kb, rfl, hS, hok, hk, fun r H1 s1 hr1 => ?_⟩
  have eG1 := s1 _ _ eG
  by_cases hkc : ∃ x, kV = .str x ∧ x ∈ concF rows
  rotate_left
  · obtain rfl : r = false := by
      cases r
      · rfl
      · exact absurd (hr1.mp rfl) hkc
    walk_at "w_go"
    rename_i e9 H9 n9 s9 ee9
    exact qnk (fun x e z => hkc ⟨x, e, z⟩) e9 H9 (s1.trans s9) (s1.free n9) ee9
  obtain rfl : r = true := hr1.mpr hkc
  obtain ⟨x, rfl, hx⟩ := id hkc
  walk_at "w_go"
  refine ⟨tV, tb, rfl, ht.same s1, fun r hr2 => ?_⟩
  by_cases htc : ∃ n, tV = .int n ∧ -MT ≤ n ∧ n ≤ MT
  rotate_left
  · obtain rfl : r = false := by
      cases r
      · rfl
      · exact absurd (hr2.mp rfl) htc
    walk_at "w_go"
    rename_i e9 H9 n9 s9 ee9
    exact qbt hkc (fun n e z => htc ⟨n, e, z⟩) e9 H9 (s1.trans s9) (s1.free n9) ee9
  obtain rfl : r = true := hr2.mpr htc
  obtain ⟨n, rfl, hn1, hn2⟩ := htc
  have hxn := conc_names hx
  have f4 := T.no_Kind_fields
  have clS := T.ow_Schema.cl
  have clK := T.ow_Kind.cl
  obtain ⟨sdx, srv, snv, sdv, srvs, skvs, hsin⟩ := id hS
  walk_at "w_go"
  refine r_ixOwn (s1 _ _ hsin.at_) ⟨S, rows, .str x, true, rfl, hS.same s1, hok, kn_name hok hxn, fun r kv H2 hv hr2 s2 k2 => ?_, fun bad => absurd hxn (bad _ rfl)⟩
  have hrn : r.name = x := (V.str.inj hv).symm
  obtain ⟨a2, kdx, bv, ov, la, fa, fvs, rfl, kin⟩ := k2
  have ff4 := kin.f4
  rw [hrn] at ff4
  have g2 := kin.at_
  have s12 := s1.trans s2
  have eG2 := s12 _ _ eG
  have hfl := fields_len hok.ok hxn
  have flen := ff4.len
  clear hr1 hkc
  walk_at "w_go"
  refine r_itK (.of kin.flds) ?_
  refine r_lcW (walk_tup (xs := fvs)) (fieldsF rows x) flen (fun _ => true) (fun f y _ => y = V.str f.1) (fun _ _ _ _ h _ => h) (fun _ s => .of (s _ _ kin.flds)) (by rw [PySem.sizeLine_eq]; omega) (fun D j f y Hi Hj acc Kt Kf hD ha sI eD yy kt kf => ?_) (fun qn ns H3 n3 s3 e3 hr3 => ?_)
  · obtain ⟨rfl, hxj⟩ := yy
    obtain ⟨y', hy', hfx⟩ := ff4.left ha
    rw [hxj] at hy'
    cases hy'
    obtain ⟨ta, rfl, hta⟩ := hfx.tx (tx_same sI)
    generalize hwp : wipe [some (V.ref g), some (V.str x), some (V.int n), some (V.ref d), some (V.ref fa), none, none, none, none, none, none, none, none] _ = σ0
    have hw2 : σ0 = [some (V.ref g), some (V.str x), some (V.int n), some (V.ref d), some (V.ref fa), none, none, none, none, none, none, none, none] := hwp.symm.trans rfl
    clear hwp
    subst hw2
    refine r_gtupK hta rfl ?_
    walk_at "w_go"
    refine ⟨rfl, ?_⟩
    walk_at "w_go"
    exact kt rfl _ _ (Same.refl _) rfl
  rw [List.filter_eq_self.mpr (fun _ _ => rfl)] at hr3
  have hns : ns = (fnamesF rows x).map V.str := by
    have := all2_map hr3
    rw [this]
    unfold fnamesF
    rw [List.map_map]
    rfl
  subst hns
  clear hr3
  have s13 := s12.trans s3
  have ed3 := s13 _ _ ed
  have eG3 := s3 _ _ eG2
  have ef3 := s3 _ _ kin.flds
  have ff3 : All2 (F4At H3) (fieldsF rows x) fvs := ff4.mono fun _ _ z => z.tx (tx_same s3)
  clear eG1 eG2 s1 s2 s3 s12
  walk_at "w_go"
  refine ⟨d, kvs, ks, rfl, .inl ed3, hks, hkl, fun ys qy hyp hys nqy => ?_⟩
  have s4 : Same H (upd H3 qy (.lst (ys.map V.str))) := s13.trans (same_new nqy)
  have ey4 : (upd H3 qy (.lst (ys.map V.str))) qy = some (.lst (ys.map V.str)) := upd_same
  have en4 : (upd H3 qy (.lst (ys.map V.str))) qn = some (.lst ((fnamesF rows x).map V.str)) := (upd_ne (ne_of_none e3 nqy)).trans e3
  have ef4 : (upd H3 qy (.lst (ys.map V.str))) fa = some (.tup fvs) := same_new nqy _ _ ef3
  have ff4' : All2 (F4At (upd H3 qy (.lst (ys.map V.str)))) (fieldsF rows x) fvs := ff3.mono fun _ _ z => z.tx (tx_same (same_new nqy))
  generalize upd H3 qy (.lst (ys.map V.str)) = H4 at s4 ey4 en4 ef4 ff4'
  clear ff3 ef3 eG3 ed3 s13 e3
  refine ⟨qy, rfl, ⟨_, .of ey4⟩, ?_⟩
  refine for_list (K := K) (a := qy) (xs := ys.map V.str) (fun i σ H' => ∃ (v6 : Option V), σ = [some (.ref g), some (.str x), some (.int n), some (.ref d), some (.ref fa), some (.ref qn), v6, none, none, none, none, none, none] ∧ Same H4 H' ∧ ∀ (j : Nat) y, j < i → ys[j]? = some y → y ∈ fnamesF rows x) ⟨_, rfl, Same.refl _, fun j y hj => by omega⟩ ?_ ?_ ?_
  · rintro i σ H' _ ⟨_, rfl, sx, _⟩
    exact .of (sx _ _ ey4)
  · rintro i v σ H5 hi ⟨v6, rfl, s5, hall⟩
    rw [List.getElem?_map] at hi
    obtain ⟨y, hy, rfl⟩ := Option.map_eq_some_iff.mp hi
    have en5 := s5 _ _ en4
    walk_at "w_go"
    refine r_inSN (.inl (.of en5)) ?_
    refine ⟨_, rfl, ?_⟩
    by_cases hm : y ∈ fnamesF rows x
    rotate_left
    · refine iteT' (by rw [decide_eq_false hm]; rfl) ?_
      walk_at "w_go"
      rename_i e9 H9 n9 s9 ee9
      have hfd : (ys.find? fun y => !decide (y ∈ fnamesF rows x)) = some y := find_first hy (by rw [decide_eq_false hm]; rfl) fun j b hj hb => by rw [decide_eq_true (hall j b hj hb)]; rfl
      have s49 := (s4.trans s5).trans s9
      exact qnf x n ys y rfl hx rfl hn1 hn2 hyp hys hfd e9 H9 s49 ((s4.trans s5).free n9) ee9
    refine iteF' (by rw [decide_eq_true hm]; rfl) ?_
    refine ⟨_, rfl, s5, fun j b hj hb => ?_⟩
    by_cases hji : j < i
    · exact hall j b hji hb
    · obtain rfl : j = i := by omega
      rw [hy] at hb
      cases hb
      exact hm
  rintro σ H5 ⟨v6, rfl, s5, hall⟩
  have hkn : ∀ y, y ∈ ks → y ∈ fnamesF rows x := fun y hy => by
    obtain ⟨j, hj⟩ := List.getElem?_of_mem (hyp.mem_iff.mpr hy)
    exact hall j y (by rw [List.length_map]; exact (List.getElem?_eq_some_iff.mp hj).1) hj
  have s05 := s4.trans s5
  have ef5 := s5 _ _ ef4
  have ff5 : All2 (F4At H5) (fieldsF rows x) fvs := ff4'.mono fun _ _ z => z.tx (tx_same s5)
  have en5 := s5 _ _ en4
  clear s4 s5 ey4 en4 ef4 ff4' hall hyp hys
  have eG5 := s05 _ _ eG
  have eT5 := s05 _ _ hin.tl_
  have hlen := hin.ths.len
  have hfew := hO.few
  have hkn0 : ∀ t, t ∈ ts → t.kind ∈ names rows := fun t ht => conc_names (hO.ok t ht).kd
  walk_at "w_go"
  refine r_ilK (.of eT5) ?_
  refine r_lcW (walk_list (xs := ads.map fun x => V.ref x.1)) ts (by rw [List.length_map]; exact hlen) (fun _ => true) (fun t v _ => v = V.str t.kind) (fun _ _ _ _ h _ => h) (fun _ s => .of (s _ _ eT5)) (by rw [PySem.sizeLine_eq, List.length_map]; omega) (fun D j t2 y2 Hi Hj acc Kt Kf hD ha sI eD yy kt kf => ?_) (fun qk kk H6 n6 s6 e6 hr6 => ?_)
  · obtain ⟨rfl, hxj⟩ := yy
    obtain ⟨x2, hx2, hth2⟩ := hin.ths.left ha
    rw [List.getElem?_map, hx2] at hxj
    cases hxj
    obtain ⟨fx2, ex2, _⟩ := hth2
    have ex3 := sI _ _ (s05 _ _ ex2)
    refine ⟨wipe_set1, ?_⟩
    walk_at "w_go"
    exact kt rfl _ _ (Same.refl _) rfl
  rw [List.filter_eq_self.mpr (fun _ _ => rfl)] at hr6
  have hkk := kinds_of hr6
  subst hkk
  walk_at "w_go"
  have hkll : ((ksOf ts).map okV).length = ts.length := by
    unfold ksOf
    rw [List.length_map, List.length_map]
  refine r_append e6 (by rw [hkll, PySem.sizeLine_eq]; omega) ?_
  have s06 := s05.trans s6
  have nk0 : H qk = none := s05.free n6
  have s07 : Same H (upd H6 qk (.lst ((ksOf ts).map okV ++ [V.str x]))) := same_put s06 nk0
  have ek7 : (upd H6 qk (.lst ((ksOf ts).map okV ++ [V.str x]))) qk = some (.lst ((ksOf ts ++ [some x]).map okV)) := by
    rw [upd_same, List.map_append]
    rfl
  have nfk : fa ≠ qk := fun z => by
    rw [← z, ef5] at n6
    cases n6
  have ef7 : (upd H6 qk (.lst ((ksOf ts).map okV ++ [V.str x]))) fa = some (.tup fvs) := (upd_ne nfk).trans (s6 _ _ ef5)
  have ff7 : All2 (F4At (upd H6 qk (.lst ((ksOf ts).map okV ++ [V.str x])))) (fieldsF rows x) fvs := ff5.mono fun _ _ z => z.tx ((tx_same s6).trans (tx_lst e6))
  generalize upd H6 qk (.lst ((ksOf ts).map okV ++ [V.str x])) = H7 at s07 ek7 ef7 ff7
  clear s06 s6 n6 hr6 ef5 ff5 en5 s05 eG5 eT5 e6
  have hK7 : KsAt H7 rows qk (ksOf ts ++ [some x]) := ⟨ek7, fun z hz => by
    rcases List.mem_append.mp hz with hz | hz
    · unfold ksOf at hz
      obtain ⟨t, ht, e⟩ := List.mem_map.mp hz
      cases e
      exact hkn0 t ht
    · rw [List.mem_singleton] at hz
      cases hz
      exact hxn⟩
  walk_at "w_go"
  have nodf : ((fieldsF rows x).map (·.1)).Nodup := fields_names hok hxn
  refine r_itK (.of ef7) (for_tup (K := K) (a := fa) (xs := fvs) (fun i σ H' => ∃ (v6 v7 v8 v9 : Option V) (vals : List FV), σ = [some (.ref g), some (.str x), some (.int n), some (.ref d), some (.ref fa), some (.ref qn), v6, v7, v8, v9, some (.ref qk), none, some (.int ((vals.flatMap FV.nums).length : Nat))] ∧ Same H7 H' ∧ All2 (PassV H rows (ksOf ts ++ [some x]) kvs) ((fieldsF rows x).take i) vals ∧ ∀ (j : Nat) f', j < i → (fieldsF rows x)[j]? = some f' → PassOk H rows (ksOf ts ++ [some x]) kvs f') ⟨_, _, _, _, [], rfl, Same.refl _, .nil, fun j f' hj => by omega⟩ ?_ ?_ ?_)
  · rintro i σ H' _ ⟨_, _, _, _, _, rfl, sx, _⟩
    exact .of (sx _ _ ef7)
  · rintro i o σ H8 hi ⟨v6, v7, v8, v9, vals, rfl, s8, hpv, hall⟩
    obtain ⟨f, hf, ta, rfl, hta⟩ := ff7.right hi
    have hta8 := s8 _ _ hta
    have s08 := s07.trans s8
    have ed8 := s08 _ _ ed
    have hfm := List.mem_of_getElem? hf
    have hil : i < fvs.length := (List.getElem?_eq_some_iff.mp hi).1
    have hsum := passV_sum hpv
    rw [List.length_take] at hsum
    refine r_gtupK hta8 rfl ?_
    walk_at "w_go"
    refine ⟨d, valV kvs (.inr f.1), rfl, DGet.k (k := .inr f.1) ed8, _, rfl, ?_⟩
    have hempty : valV kvs (.inr f.1) = none → PassV H rows (ksOf ts ++ [some x]) kvs f (emptyFV f.2.1) ∧ PassOk H rows (ksOf ts ++ [some x]) kvs f := fun e => ⟨⟨empty_ok _ _ _ _, by rw [e]⟩, fun v o z => by rw [e] at z; cases z⟩
    cases hvv : valV kvs (.inr f.1) with
    | none =>
      obtain ⟨hp1, hp2⟩ := hempty hvv
      refine iteF' rfl ?_
      walk_at "w_go"
      have hz0 : ((vals ++ [emptyFV f.2.1]).flatMap FV.nums).length = (vals.flatMap FV.nums).length := by
        rw [List.flatMap_append, List.flatMap_cons, List.flatMap_nil, empty_nums]
        simp
      refine ⟨_, _, _, _, vals ++ [emptyFV f.2.1], by rw [hz0], s8, ?_, fun j f' hj hf' => ?_⟩
      · rw [take_snoc hf]
        exact All2.snoc hp1 hpv
      · by_cases hji : j < i
        · exact hall j f' hji hf'
        · obtain rfl : j = i := by omega
          rw [hf] at hf'
          cases hf'
          exact hp2
    | some v =>
      refine iteT' rfl ?_
      obtain ⟨o, hvo⟩ := hval _ (valV_mem hvv)
      walk_at "w_go"
      refine r_dgetK ed8 hvv ?_
      walk_at "w_go"
      refine ⟨S, qk, rows, ksOf ts ++ [some x], f.2.1, f.2.2.1, v, o, rfl, hS.same s08, hok, ⟨s8 _ _ hK7.1, hK7.2⟩, fields_tgt hok.ok hfm, hvo.same s08, fun r H9 s9 hr9 => ?_⟩
      by_cases hvp : valP rows (ksOf ts ++ [some x]) f.2.1 f.2.2.1 v o
      rotate_left
      · obtain rfl : r = false := by
          cases r
          · rfl
          · exact absurd (hr9.mp rfl) hvp
        walk_at "w_go"
        rename_i e9 Hx nx sx ex
        exact qbv x n i f v o rfl hx rfl hn1 hn2 hkn hf hvv hvo hvp hall e9 Hx ((s08.trans s9).trans sx) ((s08.trans s9).free nx) ex
      obtain rfl : r = true := hr9.mpr hvp
      have s09 := s08.trans s9
      have ed9 := s9 _ _ ed8
      obtain ⟨w1, w2, w3⟩ := val_fv hvo hvp
      have hpo : PassOk H rows (ksOf ts ++ [some x]) kvs f := fun v' o' z1 z2 => by
        rw [hvv] at z1
        cases z1
        cases hvo.uniq z2
        exact hvp
      walk_at "w_go"
      refine ⟨_, rfl, ?_⟩
      walk_at "w_go"
      refine r_dgetK ed9 hvv ?_
      walk_at "w_go"
      refine r_kept (w1.kps (.of s09)) w2 (fun v' Ha sa hva => ?_)
      walk_at "w_go"
      refine ⟨_, _, v', rfl, hva, fun qz Hb sb nb eb => ?_⟩
      walk_at "w_go"
      have hz0 : ((vals ++ [vFV v o]).flatMap FV.nums).length = (vals.flatMap FV.nums).length + (vFV v o).nums.length := by
        rw [List.flatMap_append, List.flatMap_cons, List.flatMap_nil, List.length_append, List.append_nil]
      refine ⟨_, _, rfl, rfl, ?_⟩
      refine ⟨_, _, _, _, vals ++ [vFV v o], by rw [hz0, Int.natCast_add, numsV_len]; rfl, (s8.trans s9).trans (sa.trans sb), ?_, fun j f' hj hf' => ?_⟩
      · rw [take_snoc hf]
        exact All2.snoc ⟨w2, by rw [hvv]; exact ⟨w1, w3⟩⟩ hpv
      · by_cases hji : j < i
        · exact hall j f' hji hf'
        · obtain rfl : j = i := by omega
          rw [hf] at hf'
          cases hf'
          exact hpo
  rintro σ H8 ⟨v6, v7, v8, v9, vals, rfl, s8, hpv, hall⟩
  rw [← flen, List.take_length] at hpv
  rw [← flen] at hall
  have hpa : ∀ f, f ∈ fieldsF rows x → PassOk H rows (ksOf ts ++ [some x]) kvs f := fun f hf => by
    obtain ⟨j, hj⟩ := List.getElem?_of_mem hf
    exact hall j f (List.getElem?_eq_some_iff.mp hj).1 hj
  have s08 := s07.trans s8
  have eG8 := s08 _ _ eG
  have eT8 := s08 _ _ hin.tl_
  have hsum := passV_sum hpv
  obtain ⟨mc1, u1, cr1, cv1⟩ := T.cr_Graph_THINGS
  have hfv : All2 (fun (f : Fld4) z => fvB rows (ksOf ts ++ [some x]) f.2.1 f.2.2.1 z = true) (fieldsF rows x) vals := hpv.mono fun _ _ z => z.1
  have hsp : SparseD (Live H) H (fieldsF rows x) vals d kvs := ⟨ed, ⟨_, ed⟩, fun kv hkv => ?_, ?_, ?_, hpv.mono fun f z hz => ?_⟩
  rotate_left
  · have hm : kv.1 ∈ kvs.map (·.1) := List.mem_map_of_mem hkv
    rw [hks] at hm
    obtain ⟨y, hy, e⟩ := List.mem_map.mp hm
    obtain ⟨f, hf, e2⟩ := List.mem_map.mp (hkn y hy)
    rw [← e, ← e2]
    exact List.mem_map.mpr ⟨f, hf, rfl⟩
  · have := congrArg List.length hks
    rw [List.length_map, List.length_map] at this
    omega
  · rw [hks]
    exact List.pairwise_map.mpr (hnd.imp fun h z => h (Sum.inr.inj z))
  · have := hz.2
    revert this
    cases valV kvs (.inr f.1) with
    | none => exact id
    | some v => exact fun z => z.1
  clear s07 ek7 ef7 ff7 hK7 s8 hall
  walk_at "w_go"
  rw [List.length_map, ← hlen]
  by_cases hfull : 400 ≤ ts.length
  · refine iteT' (decide_eq_true (by omega)) ?_
    walk_at "w_go"
    rename_i e9 H9 n9 s9 ee9
    exact qtm x n rfl hx rfl hn1 hn2 hkn hpa hfull e9 H9 (s08.trans s9) (s08.free n9) ee9
  refine iteF' (decide_eq_false (by omega)) ?_
  clear cr1 cv1
  obtain ⟨mc2, u2, cr2, cv2⟩ := T.cr_Graph_REFERENCES
  walk_at "w_go"
  by_cases hmany : 1600 < heldN ts + (vals.flatMap FV.nums).length
  · refine iteT' (decide_eq_true (by omega)) ?_
    walk_at "w_go"
    rename_i e9 H9 n9 s9 ee9
    exact qrf x n vals rfl hx rfl hn1 hn2 hkn hsp hfv (by omega) hmany e9 H9 (s08.trans s9) (s08.free n9) ee9
  refine iteF' (decide_eq_false (by omega)) ?_
  have hGO := add_ok hO hx hn1 hn2 hfv (by omega) (by omega)
  walk_at "w_go"
  refine ⟨g, S, d, F, Live H, rows, ts, ⟨x, n, vals⟩, root, kvs, rfl, hG.kps (.of s08), hS.same s08, hok, hsp.kps (.of s08), hxn, ?_, by omega, fun H9 f9 g9 => ?_⟩
  · refine hfv.mono fun f z hz => ?_
    rcases z with o | l
    · simp only [fvB, Bool.and_eq_true, decide_eq_true_eq] at hz
      exact hz.1
    · simp only [fvB, Bool.and_eq_true, Bool.not_eq_true', decide_eq_false_iff_not] at hz
      exact hz.1
  have g9' := g9.sub (G := fun a => F a ∨ H a = none) fun a o f e => f.imp id fun z => s08.free z
  have f9' : Frm F H H9 := (Frm.of s08).trans f9
  obtain ⟨dx9, tl9, ads9, hin9⟩ := id g9'
  have eG9 := hin9.at_
  have eT9 := hin9.tl_
  have hl9 := hin9.ths.len
  rw [List.length_append, List.length_singleton] at hl9
  walk_at "w_go"
  have hq := qok x n vals rfl rfl hx hkn hsp hGO H9 f9' g9'
  rw [List.length_map, ← hl9]
  rw [show ((ts.length + 1 : Nat) : Int) - 1 = ((ts.length : Nat) : Int) from by omega]
  exact hq
theorem ok_add_tag (T : Txt P K mg ad) : FnRK P w K mg base (L2.CX P w) 9 ad.Graph_add 2 ["tag"] (fun vs zs H Q E => ∀ d, H d = none → spGAdd ad.Kind ad.Schema ad.Graph ad.NoKind ad.BadTag ad.NoField ad.BadValue ad.TooMany (vs ++ zs ++ [.ref d]) (upd H d (.dK [])) Q E) := by
  exact fn_kw (ps := ["self", "kind", "tag"]) (pd := "fields") (ks := ["tag"]) T.F_Graph_add sc_Graph_add 2 [] (fun us _ ws => us ++ ws) (fun _ => []) (by simp) (fun q hq => by cases hq)
    (fun {vs mz zs us mv ws} r1 _ r3 l1 _ l3 => ⟨r1.append r3, by rw [List.length_append, l1, l3]; rfl, .nil⟩) (fun _ _ => List.nodup_nil) (fun _ _ => by simp)
    (fun D doc pm an cdv ct us mv ws l1 l2 l3 => match us, mv, ws, l1, l2, l3 with
      | [_, _], [], [_], _, _, _ => rfl)
    (body_add T)
end
end Wm
namespace Wm
open PySem L2

section
variable {P : Program} {w : World} {K : PySem.W.Frag} {mg : Str → Option Value} {base : Heap} {ad : Ad}
theorem ok_add_none (T : Txt P K mg ad) : FnRK P w K mg base (L2.CX P w) 9 ad.Graph_add 2 [] (spAddK ad.Kind ad.Schema ad.Graph ad.NoKind ad.BadTag ad.NoField ad.BadValue ad.TooMany (fun vs _ => vs ++ [.int 0]) (fun _ => [])) := by
  exact fn_kw (ps := ["self", "kind", "tag"]) (pd := "fields") (ks := []) T.F_Graph_add sc_Graph_add 2 [("tag", .int 0)] (fun us mv _ => us ++ mv) (fun _ => []) (by simp) (fun q hq => by simpa using hq)
    (fun {vs mz zs us mv ws} r1 r2 _ l1 l2 _ => ⟨r1.append r2, by rw [List.length_append, l1, l2]; rfl, .nil⟩) (fun _ _ => List.nodup_nil) (fun _ _ => by simp)
    (fun D doc pm an cdv ct us mv ws l1 l2 l3 => match us, mv, ws, l1, l2, l3 with
      | [_, _], [_], [], _, _, _ => ⟨_, _, _, _, _, _, rfl, rfl, rfl⟩)
    (body_add T)
theorem ok_add_link (T : Txt P K mg ad) : FnRK P w K mg base (L2.CX P w) 9 ad.Graph_add 2 ["link"] (spAddK ad.Kind ad.Schema ad.Graph ad.NoKind ad.BadTag ad.NoField ad.BadValue ad.TooMany (fun vs _ => vs ++ [.int 0]) (fun zs => (["link"] : List Str).zip zs)) := by
  exact fn_kw (ps := ["self", "kind", "tag"]) (pd := "fields") (ks := ["link"]) T.F_Graph_add sc_Graph_add 2 [("tag", .int 0)] (fun us mv _ => us ++ mv) (fun ws => (["link"] : List Str).zip ws) (by simp) (fun q hq => by simpa using hq)
    (fun {vs mz zs us mv ws} r1 r2 r3 l1 l2 l3 => ⟨r1.append r2, by rw [List.length_append, l1, l2]; rfl, ex_zip r3⟩) (fun ws h => ex_nodup (by decide +kernel)) (fun ws _ => ex_few (by decide))
    (fun D doc pm an cdv ct us mv ws l1 l2 l3 => match us, mv, ws, l1, l2, l3 with
      | [_, _], [_], [_], _, _, _ => ⟨_, _, _, _, _, _, rfl, rfl, rfl⟩)
    (body_add T)
theorem ok_add_parts (T : Txt P K mg ad) : FnRK P w K mg base (L2.CX P w) 9 ad.Graph_add 2 ["parts"] (spAddK ad.Kind ad.Schema ad.Graph ad.NoKind ad.BadTag ad.NoField ad.BadValue ad.TooMany (fun vs _ => vs ++ [.int 0]) (fun zs => (["parts"] : List Str).zip zs)) := by
  exact fn_kw (ps := ["self", "kind", "tag"]) (pd := "fields") (ks := ["parts"]) T.F_Graph_add sc_Graph_add 2 [("tag", .int 0)] (fun us mv _ => us ++ mv) (fun ws => (["parts"] : List Str).zip ws) (by simp) (fun q hq => by simpa using hq)
    (fun {vs mz zs us mv ws} r1 r2 r3 l1 l2 l3 => ⟨r1.append r2, by rw [List.length_append, l1, l2]; rfl, ex_zip r3⟩) (fun ws h => ex_nodup (by decide +kernel)) (fun ws _ => ex_few (by decide))
    (fun D doc pm an cdv ct us mv ws l1 l2 l3 => match us, mv, ws, l1, l2, l3 with
      | [_, _], [_], [_], _, _, _ => ⟨_, _, _, _, _, _, rfl, rfl, rfl⟩)
    (body_add T)
theorem ok_add_parts_tag (T : Txt P K mg ad) : FnRK P w K mg base (L2.CX P w) 9 ad.Graph_add 2 ["parts", "tag"] (spAddK ad.Kind ad.Schema ad.Graph ad.NoKind ad.BadTag ad.NoField ad.BadValue ad.TooMany (fun vs zs => vs ++ zs.drop 1) (fun zs => (["parts"] : List Str).zip (zs.take 1))) := by
  exact fn_kw (ps := ["self", "kind", "tag"]) (pd := "fields") (ks := ["parts", "tag"]) T.F_Graph_add sc_Graph_add 2 [] (fun us _ ws => us ++ ws.drop 1) (fun ws => (["parts"] : List Str).zip (ws.take 1)) (by simp) (fun q hq => by cases hq)
    (fun {vs mz zs us mv ws} r1 _ r3 l1 _ l3 => ⟨r1.append (vals_drop 1 r3), by rw [List.length_append, List.length_drop, l1, l3]; rfl, ex_zip (vals_take 1 r3)⟩) (fun ws h => ex_nodup (by decide +kernel)) (fun ws _ => ex_few (by decide))
    (fun D doc pm an cdv ct us mv ws l1 l2 l3 => match us, mv, ws, l1, l2, l3 with
      | [_, _], [], [_, _], _, _, _ => rfl)
    (body_add T)
theorem ok_add_tag_link_parts (T : Txt P K mg ad) : FnRK P w K mg base (L2.CX P w) 9 ad.Graph_add 2 ["tag", "link", "parts"] (spAddK ad.Kind ad.Schema ad.Graph ad.NoKind ad.BadTag ad.NoField ad.BadValue ad.TooMany (fun vs zs => vs ++ zs.take 1) (fun zs => (["link", "parts"] : List Str).zip (zs.drop 1))) := by
  exact fn_kw (ps := ["self", "kind", "tag"]) (pd := "fields") (ks := ["tag", "link", "parts"]) T.F_Graph_add sc_Graph_add 2 [] (fun us _ ws => us ++ ws.take 1) (fun ws => (["link", "parts"] : List Str).zip (ws.drop 1)) (by simp) (fun q hq => by cases hq)
    (fun {vs mz zs us mv ws} r1 _ r3 l1 _ l3 => ⟨r1.append (vals_take 1 r3), by rw [List.length_append, List.length_take, l1, l3]; rfl, ex_zip (vals_drop 1 r3)⟩) (fun ws h => ex_nodup (by decide +kernel)) (fun ws _ => ex_few (by decide))
    (fun D doc pm an cdv ct us mv ws l1 l2 l3 => match us, mv, ws, l1, l2, l3 with
      | [_, _], [], [_, _, _], _, _, _ => rfl)
    (body_add T)
end
end Wm
namespace Wm
open PySem L2

section
variable {P : Program} {w : World} {K : PySem.W.Frag} {mg : Str → Option Value} {base : Heap} {ad : Ad}
theorem ok_l_added (T : Txt P K mg ad) : FnOk P w K mg base (L2.CX P w) 10 ad.l_added ad.fd_l_added ["_law_graph", "_law_way", "_law_kind", "_law_number", "_law_first", "_law_second"] (spLAdded ad.Kind ad.Schema ad.Graph) := by
  refine T.F_l_added.okX sc_l_added (fun vs H Q E h => ?_) (fun cdv A outer s H vs Q E hr h => ?_)
  · obtain ⟨g, S, F, rows, ts, root, way, x, n, v1, v2, z1, z2, m1, t1, o1, m2, t2, o2, rfl, _⟩ := h
    rfl
  obtain ⟨g, S, F, rows, ts, root, way, x, n, v1, v2, z1, z2, m1, t1, o1, m2, t2, o2, rfl, hG, hS, hok, hO, hx, hfl, n1, n2, hz1, hz2, hb1, hb2, hl1, hl2, hts, hh, hw, q⟩ := h
  refine ⟨_, (pss_cons (ps_if (pt_cmpR op_eq (pv 1) pe_int (nomark _)) (pss_one (ps_ret (pe_methK0 (E := fun _ => E0) (pv 0) T.ow_Graph.cl T.me_Graph_add (ok_add_none T) hr (fun σ => passAt0 σ) (pa_cons (pv 2) pa_nil)))) pss_nil)
    (pss_cons (ps_if (pt_cmpR op_eq (pv 1) pe_int (nomark _)) (pss_one (ps_ret (pe_methK (E := fun _ => E0) (pv 0) T.ow_Graph.cl T.me_Graph_add (ok_add_tag T) hr (fun σ => passAt0 σ) (pa_cons (pv 2) pa_nil) (pk_cons (pv 3) pk_nil)))) pss_nil)
    (pss_cons (ps_if (pt_cmpR op_eq (pv 1) pe_int (nomark _)) (pss_one (ps_ret (pe_methK (E := fun _ => E0) (pv 0) T.ow_Graph.cl T.me_Graph_add (ok_add_link T) hr (fun σ => passAt0 σ) (pa_cons (pv 2) pa_nil) (pk_cons (pv 4) pk_nil)))) pss_nil)
    (pss_cons (ps_if (pt_cmpR op_eq (pv 1) pe_int (nomark _)) (pss_one (ps_ret (pe_methK (E := fun _ => E0) (pv 0) T.ow_Graph.cl T.me_Graph_add (ok_add_parts_tag T) hr (fun σ => passAt0 σ) (pa_cons (pv 2) pa_nil) (pk_cons (pv 5) (pk_cons (pv 3) pk_nil))))) pss_nil)
    (pss_cons (ps_if (pt_cmpR op_eq (pv 1) pe_int (nomark _)) (pss_one (ps_ret (pe_methK (E := fun _ => E0) (pv 0) T.ow_Graph.cl T.me_Graph_add (ok_add_parts T) hr (fun σ => passAt0 σ) (pa_cons (pv 2) pa_nil) (pk_cons (pv 5) pk_nil)))) pss_nil)
    (pss_one (ps_ret (pe_methK (E := fun _ => E0) (pv 0) T.ow_Graph.cl T.me_Graph_add (ok_add_tag_link_parts T) hr (fun σ => passAt0 σ) (pa_cons (pv 2) pa_nil) (pk_cons (pv 3) (pk_cons (pv 4) (pk_cons (pv 5) pk_nil))))))))))), ?_⟩
  rw [show L2.start ["_law_graph", "_law_way", "_law_kind", "_law_number", "_law_first", "_law_second"] [V.ref g, V.int way, V.str x, V.int n, v1, v2] = [some (V.ref g), some (V.int way), some (V.str x), some (V.int n), some (v1), some (v2)] from rfl]
  have cl := T.ow_Graph.cl
  obtain ⟨gdx, gtl, gads, gin⟩ := id hG
  have eg := gin.at_
  have f1m : ((("link" : Str), m1, t1, o1) : Fld4) ∈ fieldsF rows x := by rw [hfl]; simp
  have f2m : ((("parts" : Str), m2, t2, o2) : Fld4) ∈ fieldsF rows x := by rw [hfl]; simp
  have k1 : ("link" : Str) ∈ fnamesF rows x := List.mem_map_of_mem (f := fun f : Fld4 => f.1) f1m
  have k2 : ("parts" : Str) ∈ fnamesF rows x := List.mem_map_of_mem (f := fun f : Fld4 => f.1) f2m
  have e0 : ∀ m, (emptyFV m).nums.length = 0 := fun m => by rw [empty_nums]; rfl
  have hz : -MT ≤ 0 ∧ (0 : Int) ≤ MT := by unfold MT; decide
  clear gin
  walk_at "w_go"
  by_cases w0 : way = 0
  · subst w0
    refine iteT' rfl ?_
    walk_at "w_go"
    refine r_methKw0 ?_
    walk_at "w_go"
    refine ⟨rfl, fun d nd => add_right (x := x) (n := 0) (kvs := []) (ks := []) (vals := [emptyFV m1, emptyFV m2]) hG hS hok hO hx hz.1 hz.2 nd rfl (by decide +kernel) (by decide) (fun y hy => ?_) (fun kv hkv => ?_) ?_ (by omega) ?_ fun H' f gr => ?_⟩
    · cases hy
    · cases hkv
    · rw [hfl]
      exact .cons rfl (.cons rfl .nil)
    · have q1 := e0 m1
      have q2 := e0 m2
      simp only [List.flatMap_cons, List.flatMap_nil, List.length_append, List.length_nil]
      omega
    · exact q H' f gr
  refine iteF' (decide_eq_false (by omega)) ?_
  walk_at "w_go"
  by_cases w1 : way = 1
  · subst w1
    refine iteT' rfl ?_
    walk_at "w_go"
    refine r_methKw ?_
    walk_at "w_go"
    refine ⟨rfl, rfl, fun d nd => add_right (x := x) (n := n) (kvs := []) (ks := []) (vals := [emptyFV m1, emptyFV m2]) hG hS hok hO hx n1 n2 nd rfl (by decide +kernel) (by decide) (fun y hy => ?_) (fun kv hkv => ?_) ?_ (by omega) ?_ fun H' f gr => ?_⟩
    · cases hy
    · cases hkv
    · rw [hfl]
      exact .cons rfl (.cons rfl .nil)
    · have q1 := e0 m1
      have q2 := e0 m2
      simp only [List.flatMap_cons, List.flatMap_nil, List.length_append, List.length_nil]
      omega
    · exact q H' f gr
  refine iteF' (decide_eq_false (by omega)) ?_
  walk_at "w_go"
  by_cases w2 : way = 2
  · subst w2
    refine iteT' rfl ?_
    walk_at "w_go"
    refine r_methKw ?_
    walk_at "w_go"
    refine ⟨rfl, rfl, fun d nd => add_right (x := x) (n := 0) (kvs := [((Sum.inr (("link" : Str)) : Key), v1)]) (ks := [(("link" : Str))]) (vals := [z1, emptyFV m2]) hG hS hok hO hx hz.1 hz.2 nd rfl (by decide +kernel) (by decide) (fun y hy => ?_) (fun kv hkv => ?_) ?_ (by omega) ?_ fun H' f gr => ?_⟩
    · rw [List.mem_singleton.mp hy]
      exact k1
    · rw [List.mem_singleton.mp hkv]
      exact ⟨_, z1, f1m, rfl, hz1, by omega, hb1⟩
    · rw [hfl]
      exact .cons (by simp only [valL]; exact hz1) (.cons (by simp only [valLP]) .nil)
    · have q1 := e0 m1
      have q2 := e0 m2
      simp only [List.flatMap_cons, List.flatMap_nil, List.length_append, List.length_nil]
      omega
    · exact q H' f gr
  refine iteF' (decide_eq_false (by omega)) ?_
  walk_at "w_go"
  by_cases w3 : way = 3
  · subst w3
    refine iteT' rfl ?_
    walk_at "w_go"
    refine r_methKw ?_
    walk_at "w_go"
    refine ⟨rfl, rfl, fun d nd => add_right (x := x) (n := n) (kvs := [((Sum.inr (("parts" : Str)) : Key), v2)]) (ks := [(("parts" : Str))]) (vals := [emptyFV m1, z2]) hG hS hok hO hx n1 n2 nd rfl (by decide +kernel) (by decide) (fun y hy => ?_) (fun kv hkv => ?_) ?_ (by omega) ?_ fun H' f gr => ?_⟩
    · rw [List.mem_singleton.mp hy]
      exact k2
    · rw [List.mem_singleton.mp hkv]
      exact ⟨_, z2, f2m, rfl, hz2, by omega, hb2⟩
    · rw [hfl]
      exact .cons (by simp only [valPL]) (.cons (by simp only [valP2]; exact hz2) .nil)
    · have q1 := e0 m1
      have q2 := e0 m2
      simp only [List.flatMap_cons, List.flatMap_nil, List.length_append, List.length_nil]
      omega
    · exact q H' f gr
  refine iteF' (decide_eq_false (by omega)) ?_
  walk_at "w_go"
  by_cases w4 : way = 4
  · subst w4
    refine iteT' rfl ?_
    walk_at "w_go"
    refine r_methKw ?_
    walk_at "w_go"
    refine ⟨rfl, rfl, fun d nd => add_right (x := x) (n := 0) (kvs := [((Sum.inr (("parts" : Str)) : Key), v2)]) (ks := [(("parts" : Str))]) (vals := [emptyFV m1, z2]) hG hS hok hO hx hz.1 hz.2 nd rfl (by decide +kernel) (by decide) (fun y hy => ?_) (fun kv hkv => ?_) ?_ (by omega) ?_ fun H' f gr => ?_⟩
    · rw [List.mem_singleton.mp hy]
      exact k2
    · rw [List.mem_singleton.mp hkv]
      exact ⟨_, z2, f2m, rfl, hz2, by omega, hb2⟩
    · rw [hfl]
      exact .cons (by simp only [valPL]) (.cons (by simp only [valP2]; exact hz2) .nil)
    · have q1 := e0 m1
      have q2 := e0 m2
      simp only [List.flatMap_cons, List.flatMap_nil, List.length_append, List.length_nil]
      omega
    · exact q H' f gr
  refine iteF' (decide_eq_false (by omega)) ?_
  walk_at "w_go"
  refine r_methKw ?_
  walk_at "w_go"
  refine ⟨rfl, rfl, fun d nd => add_right (x := x) (n := n) (kvs := [((Sum.inr (("link" : Str)) : Key), v1), ((Sum.inr (("parts" : Str)) : Key), v2)]) (ks := [(("link" : Str)), (("parts" : Str))]) (vals := [z1, z2]) hG hS hok hO hx n1 n2 nd rfl (by decide +kernel) (by decide) (fun y hy => ?_) (fun kv hkv => ?_) ?_ (by omega) ?_ fun H' f gr => ?_⟩
  · rcases List.mem_cons.mp hy with rfl | hy
    · exact k1
    · rw [List.mem_singleton.mp hy]
      exact k2
  · rcases List.mem_cons.mp hkv with rfl | hkv
    · exact ⟨_, z1, f1m, rfl, hz1, by omega, hb1⟩
    · rw [List.mem_singleton.mp hkv]
      exact ⟨_, z2, f2m, rfl, hz2, by omega, hb2⟩
  · rw [hfl]
    exact .cons (by simp only [valLP1]; exact hz1) (.cons (by simp only [valLP2]; exact hz2) .nil)
  · have q1 := e0 m1
    have q2 := e0 m2
    simp only [List.flatMap_cons, List.flatMap_nil, List.length_append, List.length_nil]
    omega
  · have e1 : wTag way n = n := if_pos (by omega)
    have e2 : wLink way m1 z1 = z1 := if_pos (by omega)
    have e3 : wPart way m2 z2 = z2 := if_pos (by omega)
    rw [e1, e2, e3] at q
    exact q H' f gr
end
end Wm
namespace Wm
open PySem L2

section
variable {P : Program} {w : World} {K : PySem.W.Frag} {mg : Str → Option Value} {base : Heap} {ad : Ad}
theorem ok_l_family (T : Txt P K mg ad) : FnOk P w K mg base (L2.CX P w) 6 ad.l_family ad.fd_l_family ["_law_pen_here"] spFam := by
  refine T.F_l_family.okX sc_l_family (fun vs H Q E h => ?_) (fun cdv A outer s H vs Q E hr h => ?_)
  · obtain ⟨p, c, rfl, _⟩ := h
    rfl
  obtain ⟨p, c, rfl, hp, q⟩ := h
  refine ⟨_, (pss_cons (ps_set (i := 1) sc_l_family.nd rfl (Or.inl rfl) (pe_op op_add pe_int (pe_call (ok_l_take T) (hr.mono (by decide)) rfl T.g_l_take T.F_l_take.kp T.b_l_take .nil passL (pa_cons (pv 0) (pa_cons pe_int pa_nil)))))
    (pss_cons (ps_set (i := 2) sc_l_family.nd rfl (Or.inl rfl) (pe_call (ok_l_kind_names T) hr rfl T.g_l_kind_names T.F_l_kind_names.kp T.b_l_kind_names .nil passL (pa_cons (pv 0) (pa_cons (pe_op op_add (pv 1) pe_int) pa_nil))))
    (pss_cons (ps_set (i := 3) sc_l_family.nd rfl (Or.inl rfl) (pe_lst (pa_cons (pe_ix ix_list (pe_lst (pa_cons pe_str (pa_cons pe_str pa_nil))) (pe_call (ok_l_take T) (hr.mono (by decide)) rfl T.g_l_take T.F_l_take.kp T.b_l_take .nil passL (pa_cons (pv 0) (pa_cons pe_int pa_nil))) (fun _ _ => rfl)) (pa_cons (pe_ix ix_list (pe_lst (pa_cons pe_str (pa_cons pe_str pa_nil))) (pe_call (ok_l_take T) (hr.mono (by decide)) rfl T.g_l_take T.F_l_take.kp T.b_l_take .nil passL (pa_cons (pv 0) (pa_cons pe_int pa_nil))) (fun _ _ => rfl)) pa_nil))))
    (pss_cons (ps_set (i := 4) sc_l_family.nd rfl (Or.inl rfl) (pe_lst (pa_cons (pe_ix ix_list (pv 2) (pe_call (ok_l_take T) (hr.mono (by decide)) rfl T.g_l_take T.F_l_take.kp T.b_l_take .nil passL (pa_cons (pv 0) (pa_cons (pe_op op_add (pv 1) pe_int) pa_nil))) (fun _ _ => rfl)) (pa_cons (pe_ix ix_list (pv 2) (pe_call (ok_l_take T) (hr.mono (by decide)) rfl T.g_l_take T.F_l_take.kp T.b_l_take .nil passL (pa_cons (pv 0) (pa_cons (pe_op op_add (pv 1) pe_int) pa_nil))) (fun _ _ => rfl)) pa_nil))))
    (pss_cons (ps_set (i := 5) sc_l_family.nd rfl (Or.inl rfl) (pe_lst (pa_cons (pe_tup (pa_cons (pe_ix ix_list (pv 2) pe_int (fun _ _ => rfl)) (pa_cons (pe_tup pa_nil) (pa_cons pe_bl (pa_cons (pe_tup (pa_cons (pe_tup (pa_cons pe_str (pa_cons (pe_ix ix_list (pv 3) pe_int (fun _ _ => rfl)) (pa_cons (pe_ix ix_list (pv 4) pe_int (fun _ _ => rfl)) pa_nil)))) (pa_cons (pe_tup (pa_cons pe_str (pa_cons (pe_ix ix_list (pv 3) pe_int (fun _ _ => rfl)) (pa_cons (pe_ix ix_list (pv 4) pe_int (fun _ _ => rfl)) pa_nil)))) pa_nil))) pa_nil))))) pa_nil)))
    (pss_cons (ps_for (passes_of rfl) rfl (pi_range1 rfl T.n_range (pa_cons (pv 1) pa_nil)) (pg_name (i := 6) sc_l_family.nd rfl (Or.inl rfl)) (pss_cons (ps_set (i := 7) sc_l_family.nd rfl (Or.inl rfl) (pe_ix ix_list (pv 2) (pe_call (ok_l_take T) (hr.mono (by decide)) rfl T.g_l_take T.F_l_take.kp T.b_l_take .nil passL (pa_cons (pv 0) (pa_cons (pe_op op_add (pv 6) pe_int) pa_nil))) (fun _ _ => rfl)))
    (pss_one (ps_expr (pe_bm PySem.F.plainAttrs_list PySem.F.slot_list_append PySem.F.type_list_append mt_append (pv 5) (pa_cons (pe_tup (pa_cons (pe_ix ix_list (pv 2) (pe_op op_add (pv 6) pe_int) (fun _ _ => rfl)) (pa_cons (pe_tup (pa_cons (pv 7) pa_nil)) (pa_cons pe_bl (pa_cons (pe_tup pa_nil) pa_nil))))) pa_nil))))))
    (pss_one (ps_ret (pv 5))))))))), ?_⟩
  rw [show L2.start ["_law_pen_here", "_law_count", "_law_names_here", "_law_modes", "_law_targets_here", "_law_rows", "_law_k", "_law_base"] [V.ref p] = [some (V.ref p), none, none, none, none, none, none, none] from rfl]
  walk_at "w_go"
  refine r_take hp (by decide) (by decide) (fun r H1 b0 b1 s1 => ?_)
  obtain ⟨cn, rfl⟩ := Int.eq_ofNat_of_zero_le b0
  have hp1 := s1.pen
  walk_at "w_go"
  refine ⟨p, c, cn + 2, by rw [show (1 + (cn : Int) + 1) = ((cn + 2 : Nat) : Int) from by omega]; rfl, hp1, by omega, fun l nL H2 s2 n2 e2 hl hnd hkn => ?_⟩
  have st2 := s1.trans s2
  have hp2 := st2.pen
  clear s1 s2 n2 hp1
  walk_at "w_go"
  rename_i qa Ha na sa ea
  have hpa := hp2.same sa
  refine r_take hpa (by decide) (by decide) (fun r3 H3 c0 c1 s3 => ?_)
  walk_at "w_go"
  refine r_pick ["one", "many"] (s3.at hpa ea rfl) rfl c0 c1 (fun m1 hm1 => ?_)
  have st3 := (st2.same sa).trans s3
  have e3 := s3.at hpa (sa _ _ e2) rfl
  have hp3 := st3.pen
  clear sa ea s3 hpa na e2 st2 hp2 c0 c1
  walk_at "w_go"
  rename_i qa Ha na sa ea
  have hpa := hp3.same sa
  refine r_take hpa (by decide) (by decide) (fun r4 H4 c0 c1 s4 => ?_)
  walk_at "w_go"
  refine r_pick ["one", "many"] (s4.at hpa ea rfl) rfl c0 c1 (fun m2 hm2 => ?_)
  have st4 := (st3.same sa).trans s4
  have e4 := s4.at hpa (sa _ _ e3) rfl
  have hp4 := st4.pen
  clear sa ea s4 hpa na e3 st3 hp3 c0 c1
  walk_at "w_go"
  rename_i qm Hm nm sm em
  have st5 := st4.same sm
  have e5 := sm _ _ e4
  have hp5 := st5.pen
  rw [show (1 + (cn : Int) + 1) = ((cn + 2 : Nat) : Int) from by omega]
  refine r_take hp5 (by omega) (by omega) (fun r6 H6 c0 c1 s6 => ?_)
  walk_at "w_go"
  refine r_pick l (s6.at hp5 e5 rfl) rfl c0 (by omega) (fun t1 ht1 => ?_)
  have st6 := st5.trans s6
  have e6 := s6.at hp5 e5 rfl
  have em6 := s6.at hp5 em rfl
  have hp6 := st6.pen
  clear sm nm em s6 e5 hp5 st5 st4 e4 hp4 c0 c1
  walk_at "w_go"
  rw [show (1 + (cn : Int) + 1) = ((cn + 2 : Nat) : Int) from by omega]
  refine r_take hp6 (by omega) (by omega) (fun r7 H7 c0 c1 s7 => ?_)
  walk_at "w_go"
  refine r_pick l (s7.at hp6 e6 rfl) rfl c0 (by omega) (fun t2 ht2 => ?_)
  have st7 := st6.trans s7
  have e7 := s7.at hp6 e6 rfl
  have em7 := s7.at hp6 em6 rfl
  have hp7 := st7.pen
  obtain ⟨x0, hx0⟩ : ∃ x, l[0]? = some x := ⟨_, List.getElem?_eq_getElem (by omega)⟩
  clear s7 e6 em6 hp6 st6 c0 c1
  walk_at "w_go"
  rename_i qt Ht nt st et
  have e8 := st _ _ e7
  refine r_ixLK e8 (atI_nat (j := 0) (by rw [List.getElem?_map, hx0]; rfl)) ?_
  walk_at "w_go"
  rename_i q1 Hb nb sb eb q2 Hc nc sc ec q3 Hd nd sd ed q4 He ne se ee q5 Hf nf sf ef qr Hg ng sg eg
  have eg1 := sg _ _ (sf _ _ (se _ _ (sd _ _ (sc _ _ eb))))
  have eg2 := sg _ _ (sf _ _ (se _ _ (sd _ _ ec)))
  have eg3 := sg _ _ (sf _ _ (se _ _ ed))
  have eg4 := sg _ _ (sf _ _ ee)
  have eg5 := sg _ _ ef
  have s8g := ((((sb.trans sc).trans sd).trans se).trans sf).trans sg
  have stg := (st7.same st).same s8g
  have eLg := s8g _ _ e8
  have nqr : H qr = none := (st7.same (st.trans ((((sb.trans sc).trans sd).trans se).trans sf))).free ng
  have nLr : nL ≠ qr := ne_of_none (((((sb.trans sc).trans sd).trans se).trans sf) _ _ e8) ng
  have hrow : RowAt Hg (famRow m1 t1 m2 t2 x0) (.ref q5) := ⟨q5, .ref q1, .ref q4, rfl, eg5, ⟨q1, rfl, eg1⟩, ⟨q4, _, rfl, eg4, .cons ⟨q2, rfl, eg2⟩ (.cons ⟨q3, rfl, eg3⟩ .nil)⟩⟩
  have hF0 : Fam l m1 t1 m2 t2 x0 [famRow m1 t1 m2 t2 x0] := fam0 (hkn _ (List.mem_of_getElem? hx0)) hm1 hm2 ht1 ht2
  have hn0 : names [famRow m1 t1 m2 t2 x0] = l.take 1 := by
    rw [take_more hx0]
    rfl
  clear eg1 eg2 eg3 eg4 eg5 s8g sb sc sd se sf sg st eb ec ed ee ef nb nc nd ne nf ng e8 et nt st7 e7 em7 hp7
  refine ⟨((cn + 1 : Nat) : Int), by rw [show (1 + (cn : Int)) = ((cn + 1 : Nat) : Int) from by omega], by omega, by omega, ?_⟩
  refine for_range (lo := 0) (n := cn + 1) (fun i σ H' => ∃ (v6 v7 : Option V) (rows : List Row) (vs : List V), σ = [some (.ref p), some (.int (1 + (cn : Int))), some (.ref nL), some (.ref qm), some (.ref qt), some (.ref qr), v6, v7] ∧ PenStep p c H H' ∧ H' nL = some (.lst (l.map V.str)) ∧ H' qr = some (.lst vs) ∧ All2 (RowAt H') rows vs ∧ Fam l m1 t1 m2 t2 x0 rows ∧ names rows = l.take (i + 1)) ⟨_, _, _, _, rfl, stg, eLg, eg, .cons hrow .nil, hF0, hn0⟩ ?_ ?_
  · clear hrow hF0 hn0 eg eLg stg
    rintro i σ H8 hi ⟨v6, v7, rows, vs, rfl, st8, eL8, er8, hvs, hF, hnm⟩
    have hp8 := st8.pen
    have hvl := hvs.len
    have hrl : rows.length = i + 1 := by
      have := congrArg List.length hnm
      rw [List.length_take] at this
      unfold names at this
      rw [List.length_map] at this
      omega
    walk_at "w_go"
    rw [show (0 + (i : Int) + 1) = ((i + 1 : Nat) : Int) from by omega]
    refine r_take hp8 (by omega) (by omega) (fun rb H9 c0 c1 s9 => ?_)
    obtain ⟨bi, rfl⟩ := Int.eq_ofNat_of_zero_le c0
    obtain ⟨b, hb⟩ : ∃ b, l[bi]? = some b := ⟨_, List.getElem?_eq_getElem (by omega)⟩
    obtain ⟨n, hn⟩ : ∃ n, l[i + 1]? = some n := ⟨_, List.getElem?_eq_getElem (by omega)⟩
    have eL9 := s9.at hp8 eL8 rfl
    have er9 := s9.at hp8 er8 rfl
    have st9 := st8.trans s9
    have hvs9 := all2_rows hvs (tx_step hp8 s9)
    walk_at "w_go"
    refine r_ixLK eL9 (atI_nat (by rw [List.getElem?_map, hb]; rfl)) ?_
    walk_at "w_go"
    rw [show (0 + (i : Int) + 1) = ((i + 1 : Nat) : Int) from by omega]
    refine r_ixLK eL9 (atI_nat (by rw [List.getElem?_map, hn]; rfl)) ?_
    walk_at "w_go"
    rename_i q1 Ha na sa ea q2 Hb nb sb eb q3 Hc nc sc ec
    have sac := (sa.trans sb).trans sc
    have erc := sac _ _ er9
    have eLc := sac _ _ eL9
    refine r_append erc (by rw [PySem.sizeLine_eq]; omega) ?_
    have nmem : n ∉ names rows := fun z => by
      rw [hnm] at z
      obtain ⟨j, hj⟩ := List.getElem?_of_mem z
      rw [List.getElem?_take] at hj
      split at hj
      · have := (List.getElem?_inj (by omega) hnd).mp (hj.trans hn.symm)
        omega
      · cases hj
    have bmem : b ∈ names rows := by
      rw [hnm]
      exact List.mem_of_getElem? (i := bi) (by rw [List.getElem?_take, if_pos (by omega)]; exact hb)
    have hrow : RowAt Hc ⟨n, [b], false, []⟩ (.ref q3) := ⟨q3, .ref q1, .ref q2, rfl, ec, ⟨q1, rfl, sc _ _ (sb _ _ ea)⟩, ⟨q2, [], rfl, sc _ _ eb, .nil⟩⟩
    have txl : Tx Hc (upd Hc qr (.lst (vs ++ [V.ref q3]))) := tx_lst erc
    refine ⟨_, _, rows ++ [⟨n, [b], false, []⟩], vs ++ [V.ref q3], rfl, (st9.same sac).put hp nqr, (upd_ne nLr).trans eLc, upd_same, All2.snoc (hrow.tx txl) (all2_rows (all2_rows hvs9 (tx_same sac)) txl), hF.snoc (hkn n (List.mem_of_getElem? hn)) nmem bmem, ?_⟩
    rw [take_more hn, ← hnm]
    unfold names
    rw [List.map_append]
    rfl
  · rintro σ H8 ⟨v6, v7, rows, vs, rfl, st8, eL8, er8, hvs, hF, hnm⟩
    walk_at "w_go"
    have hnl : names rows = l := by
      rw [hnm]
      exact List.take_of_length_le (by omega)
    have hrl : rows.length = cn + 2 := by
      have := congrArg List.length hnl
      unfold names at this
      rw [List.length_map] at this
      omega
    exact q rows m1 t1 m2 t2 x0 qr H8 st8 nqr ⟨vs, er8, hvs⟩ ⟨by rw [hnl]; exact hF.ok, by omega, by omega, hF.cn (by omega)⟩ hF.nf hm1 hm2
end
end Wm
namespace Wm
open PySem L2

section
variable {P : Program} {w : World} {K : PySem.W.Frag} {mg : Str → Option Value} {base : Heap} {ad : Ad}
theorem ok_l_one_more (T : Txt P K mg ad) : FnOk P w K mg base (L2.CX P w) 11 ad.l_one_more ad.fd_l_one_more ["_law_pen_here", "_law_rows", "_law_graph", "_law_things"] (spLMore ad.Kind ad.Schema ad.Graph) := by
  refine T.F_l_one_more.okX sc_l_one_more (fun vs H Q E h => ?_) (fun cdv A outer s H vs Q E hr h => ?_)
  · obtain ⟨p, c, L, TL, g, S, B0, F, AG, BT, rows, ts, m1, t1, m2, t2, o, rfl, _⟩ := h
    rfl
  obtain ⟨p, c, L, TL, g, S, B0, F, AG, BT, rows, ts, m1, t1, m2, t2, o, rfl, hp0, hst, hR0, hok, hsn, hfam, hD, nF, hF0, hlt, hhl, q⟩ := h
  have hp := hst.pen
  have hkn : ∀ t, t ∈ ts → t.kind ∈ names rows := fun t ht => conc_names (hD.ok.ok t ht).kd
  have hfT : BT TL := by
    obtain ⟨_, f, _⟩ := hD.th
    exact f
  have nTL : B0 TL = none := hF0 _ (hD.sb _ hfT)
  obtain ⟨vs0, fT, eT, hvs0⟩ := id hD.th
  have hlen := hvs0.len
  have nAp : ¬ AG p := fun z => nF (hD.sa _ z)
  have nBp : ¬ BT p := fun z => nF (hD.sb _ z)
  refine ⟨_, (pss_cons (ps_set (i := 4) sc_l_one_more.nd rfl (Or.inl rfl) (pe_ix ix_list (pe_call (ok_l_concrete T) (hr.mono (by decide)) rfl T.g_l_concrete T.F_l_concrete.kp T.b_l_concrete .nil passL (pa_cons (pv 1) pa_nil)) (pe_call (ok_l_take T) (hr.mono (by decide)) rfl T.g_l_take T.F_l_take.kp T.b_l_take .nil passL (pa_cons (pv 0) (pa_cons (pe_callB c_len (by rfl) T.n_len PySem.boot_len (pa_cons (pe_call (ok_l_concrete T) (hr.mono (by decide)) rfl T.g_l_concrete T.F_l_concrete.kp T.b_l_concrete .nil passL (pa_cons (pv 1) pa_nil)) pa_nil)) pa_nil))) (fun _ _ => rfl)))
    (pss_cons (ps_set (i := 5) sc_l_one_more.nd rfl (Or.inl rfl) (pe_op op_cat (pe_lc (own := [("_law_row", 6)]) (g := gName 6) (tt := tYes) rfl sc_l_one_more.nd (pi_list (pv 3)) (blkOk_by (own := [("_law_row", 6)]) (N := ["_law_pen_here", "_law_rows", "_law_graph", "_law_things", "_law_kind", "_law_kinds", "_law_row", "_law_fields_here", "_law_first", "_law_second", "_law_number", "_law_way", "_law_values", "_law_told", "_law_handed"]) (sc := defScope s_l_one_more) (by decide +kernel)) (fun _ _ _ _ _ => pg_name (i := 6) sc_l_one_more.nd rfl (Or.inl rfl)) (fun _ _ _ _ _ => pts_nil) (fun _ _ _ _ _ => (pe_ix (ix_tup : IxR _ (rIxT K)) (pv 6) pe_int (fun _ _ => rfl)))) (pe_lst (pa_cons (pv 4) pa_nil))))
    (pss_cons (ps_set (i := 7) sc_l_one_more.nd rfl (Or.inl rfl) (pe_call (ok_l_fields T) (hr.mono (by decide)) rfl T.g_l_fields T.F_l_fields.kp T.b_l_fields .nil passL (pa_cons (pv 1) (pa_cons (pv 4) pa_nil))))
    (pss_cons (ps_set (i := 8) sc_l_one_more.nd rfl (Or.inl rfl) (pe_call (ok_l_value T) (hr.mono (by decide)) rfl T.g_l_value T.F_l_value.kp T.b_l_value .nil passL (pa_cons (pv 0) (pa_cons (pv 1) (pa_cons (pv 5) (pa_cons (pe_ix ix_tup (pe_ix ix_list (pv 7) pe_int (fun _ _ => rfl)) pe_int (fun _ _ => rfl)) (pa_cons (pe_ix ix_tup (pe_ix ix_list (pv 7) pe_int (fun _ _ => rfl)) pe_int (fun _ _ => rfl)) (pa_cons pe_int pa_nil))))))))
    (pss_cons (ps_set (i := 9) sc_l_one_more.nd rfl (Or.inl rfl) (pe_call (ok_l_value T) (hr.mono (by decide)) rfl T.g_l_value T.F_l_value.kp T.b_l_value .nil passL (pa_cons (pv 0) (pa_cons (pv 1) (pa_cons (pv 5) (pa_cons (pe_ix ix_tup (pe_ix ix_list (pv 7) pe_int (fun _ _ => rfl)) pe_int (fun _ _ => rfl)) (pa_cons (pe_ix ix_tup (pe_ix ix_list (pv 7) pe_int (fun _ _ => rfl)) pe_int (fun _ _ => rfl)) (pa_cons pe_int pa_nil))))))))
    (pss_cons (ps_set (i := 10) sc_l_one_more.nd rfl (Or.inl rfl) (pe_call (ok_l_tag T) (hr.mono (by decide)) rfl T.g_l_tag T.F_l_tag.kp T.b_l_tag .nil passL (pa_cons (pv 0) pa_nil)))
    (pss_cons (ps_set (i := 11) sc_l_one_more.nd rfl (Or.inl rfl) (pe_call (ok_l_take T) (hr.mono (by decide)) rfl T.g_l_take T.F_l_take.kp T.b_l_take .nil passL (pa_cons (pv 0) (pa_cons pe_int pa_nil))))
    (pss_cons (ps_set (i := 12) sc_l_one_more.nd rfl (Or.inl rfl) (pe_disp (pps_cons pe_str (pe_call (ok_l_empty T) (hr.mono (by decide)) rfl T.g_l_empty T.F_l_empty.kp T.b_l_empty .nil passL (pa_cons (pe_ix ix_tup (pe_ix ix_list (pv 7) pe_int (fun _ _ => rfl)) pe_int (fun _ _ => rfl)) pa_nil)) (pps_cons pe_str (pe_call (ok_l_empty T) (hr.mono (by decide)) rfl T.g_l_empty T.F_l_empty.kp T.b_l_empty .nil passL (pa_cons (pe_ix ix_tup (pe_ix ix_list (pv 7) pe_int (fun _ _ => rfl)) pe_int (fun _ _ => rfl)) pa_nil)) pps_nil)) (by rfl) (by rfl) (fun z => by cases z) (by decide)))
    (pss_cons (ps_set (i := 6) sc_l_one_more.nd rfl (Or.inl rfl) (pe_tup (pa_cons (pv 4) (pa_cons (pe_op op_mul (pv 10) (pe_callTy c_int1 (by rfl) T.n_int (by decide +kernel) (pa_cons (pe_cmpR op_in_seq (pv 11) (pe_lst (pa_cons pe_int (pa_cons pe_int (pa_cons pe_int (pa_cons pe_int pa_nil))))) (by rfl)) pa_nil))) (pa_cons (pv 12) pa_nil)))))
    (pss_cons (ps_if (pt_cmpR op_in_seq (pv 11) (pe_lst (pa_cons pe_int (pa_cons pe_int (pa_cons pe_int pa_nil)))) (by rfl)) (pss_one (ps_dput (hu_of hr) (pv 12) pe_str (pe_call (ok_l_copied T) (hr.mono (by decide)) rfl T.g_l_copied T.F_l_copied.kp T.b_l_copied .nil passL (pa_cons (pv 8) pa_nil)) rfl)) pss_nil)
    (pss_cons (ps_if (pt_cmpR op_in_seq (pv 11) (pe_lst (pa_cons pe_int (pa_cons pe_int (pa_cons pe_int (pa_cons pe_int pa_nil))))) (by rfl)) (pss_one (ps_dput (hu_of hr) (pv 12) pe_str (pe_call (ok_l_copied T) (hr.mono (by decide)) rfl T.g_l_copied T.F_l_copied.kp T.b_l_copied .nil passL (pa_cons (pv 9) pa_nil)) rfl)) pss_nil)
    (pss_cons (ps_if (PW.pt (pw_and (pt_val (pe_callB call_isi (by rfl) T.n_isinstance (by decide +kernel) (pa_cons (pv 9) (pa_cons (pe_bltn (v := .ty "list") (by rfl) T.n_list (by decide +kernel) rfl) pa_nil)))) (pw_and1 (pt_val (pe_call (ok_l_bit T) (hr.mono (by decide)) rfl T.g_l_bit T.F_l_bit.kp T.b_l_bit .nil passL (pa_cons (pv 0) (pa_cons pe_int pa_nil))))))) (pss_one (ps_set (i := 9) sc_l_one_more.nd rfl (Or.inl rfl) (pe_callTy c_tuple (by rfl) T.n_tuple (by decide +kernel) (pa_cons (pv 9) pa_nil)))) pss_nil)
    (pss_cons (ps_set (i := 13) sc_l_one_more.nd rfl (Or.inl rfl) (pe_call (ok_l_added T) hr rfl T.g_l_added T.F_l_added.kp T.b_l_added .nil passL (pa_cons (pv 2) (pa_cons (pv 11) (pa_cons (pv 4) (pa_cons (pv 10) (pa_cons (pv 8) (pa_cons (pv 9) pa_nil))))))))
    (pss_cons (ps_expr (pe_bm PySem.F.plainAttrs_list PySem.F.slot_list_append PySem.F.type_list_append mt_append (pv 3) (pa_cons (pv 6) pa_nil)))
    (pss_cons (ps_for (passes_of rfl) rfl (pi_list (pe_lst (pa_cons (pv 8) (pa_cons (pv 9) pa_nil)))) (pg_name (i := 14) sc_l_one_more.nd rfl (Or.inl rfl)) (pss_one (ps_if (pt_val (pe_callB call_isi (by rfl) T.n_isinstance (by decide +kernel) (pa_cons (pv 14) (pa_cons (pe_bltn (v := .ty "list") (by rfl) T.n_list (by decide +kernel) rfl) pa_nil)))) (pss_one (ps_expr (pe_bm PySem.F.plainAttrs_list PySem.F.slot_list_append PySem.F.type_list_append mt_append (pv 14) (pa_cons pe_int pa_nil)))) pss_nil)))
    (pss_one (ps_ret (pe_and (pe_call (ok_l_is_integer T) (hr.mono (by decide)) rfl T.g_l_is_integer T.F_l_is_integer.kp T.b_l_is_integer .nil passL (pa_cons (pv 13) pa_nil)) (pe_one (pe_cmpR op_eq (pv 13) (pe_op op_sub (pe_callB c_len (by rfl) T.n_len PySem.boot_len (pa_cons (pv 3) pa_nil)) pe_int) (nomark _))))))))))))))))))))), ?_⟩
  rw [show L2.start ["_law_pen_here", "_law_rows", "_law_graph", "_law_things", "_law_kind", "_law_kinds", "_law_row", "_law_fields_here", "_law_first", "_law_second", "_law_number", "_law_way", "_law_values", "_law_told", "_law_handed"] [V.ref p, V.ref L, V.ref g, V.ref TL] = [some (V.ref p), some (V.ref L), some (V.ref g), some (V.ref TL), none, none, none, none, none, none, none, none, none, none, none] from rfl]
  have hR := hR0.step hp0 hst
  have hcl : (concF rows).length ≤ 6 := Nat.le_trans (by
    unfold concF
    rw [List.length_map]
    exact List.length_filter_le _ _) hok.few
  have hcn : 1 ≤ (concF rows).length := by
    obtain ⟨r, h1, h2⟩ := hok.conc
    have := (concF_iff hok h1).mpr h2
    exact List.length_pos_of_mem this
  walk_at "w_go"
  refine ⟨L, rows, rfl, hR, hok.few, fun u1 H1 s1 n1 e1 => ?_⟩
  walk_at "w_go"
  refine ⟨L, rows, rfl, hR.same s1, hok.few, fun u2 H2 s2 n2 e2 => ?_⟩
  have s12 := s1.trans s2
  have hp2 := hp.same s12
  have e12 := s2 _ _ e1
  walk_at "w_go"
  rw [List.length_map]
  refine r_take hp2 (by omega) (by omega) (fun r H3 b0 b1 t3 => ?_)
  obtain ⟨ki, rfl⟩ := Int.eq_ofNat_of_zero_le b0
  obtain ⟨x, hx⟩ : ∃ x, (concF rows)[ki]? = some x := ⟨_, List.getElem?_eq_getElem (by omega)⟩
  have hxc := List.mem_of_getElem? hx
  have hxn := conc_names hxc
  have e13 := t3.at hp2 e12 rfl
  have t03 : PenStep p c H H3 := ((PenStep.refl hp).same s12).trans t3
  have hp3 := t3.pen
  have eT3 := t03.at hp eT rfl
  have hvs3 := hvs0.mono fun _ _ z => z.kps (t03.kps nBp)
  clear s1 s2 s12 e1 e2 n1 n2 e12 hp2 b0 b1 t3
  refine r_ixLK e13 (atI_nat (by rw [List.getElem?_map, hx]; rfl)) ?_
  walk_at "w_go"
  refine r_ilK (.of eT3) ?_
  refine r_lcW (walk_list (xs := vs0)) ts (by omega) (fun _ => true) (fun t v _ => v = V.str t.kind) (fun _ _ _ _ h _ => h) (fun _ s => .of (s _ _ eT3)) (by rw [PySem.sizeLine_eq]; omega) (fun D j t2 y2 Hi Hj acc Kt Kf hDn ha sI eD yy kt kf => ?_) (fun qk ys H4 n4 s4 e4 hr4 => ?_)
  · obtain ⟨rfl, hxj⟩ := yy
    obtain ⟨y3, hy3, a3, d3, k3, rfl, _, ea3, _⟩ := hvs3.left ha
    rw [hxj] at hy3
    cases hy3
    have ea4 := sI _ _ ea3
    refine ⟨wipe_set1, ?_⟩
    walk_at "w_go"
    exact kt rfl _ _ (Same.refl _) rfl
  rw [List.filter_eq_self.mpr (fun _ _ => rfl)] at hr4
  have hys : ys = (ts.map (·.kind)).map V.str := by
    rw [kinds_of hr4]
    unfold ksOf
    rw [List.map_map, List.map_map]
    rfl
  subst hys
  clear hr4 hvs3 e13
  walk_at "w_go"
  rename_i q1 H5 n5 s5 e5 qs H6 n6 s6 e6
  have s36 := (s4.trans s5).trans s6
  have eks : H6 qs = some (.lst ((ts.map (·.kind) ++ [x]).map V.str)) := by
    rw [e6, List.map_append]
    rfl
  have t06 := t03.same s36
  have hp6 := t06.pen
  clear s4 e4 n4 s5 n5 e5 s6 n6 e6 s36 eT3 hp3 t03
  have hR6 := hR.step hp t06
  refine ⟨L, rows, _, x, rfl, hR6, hok.ok, hok.few, hxn, fun qf H7 s7 n7 hF7 => ?_⟩
  obtain ⟨fvs, ef, hfv⟩ := hF7
  have hfx := hfam x hxn
  have f1m : ((("link" : Str), m1, t1, o) : Fld4) ∈ fieldsF rows x := by rw [hfx]; exact List.mem_cons_self
  have f2m : ((("parts" : Str), m2, t2, o) : Fld4) ∈ fieldsF rows x := by rw [hfx]; exact List.mem_cons_of_mem _ List.mem_cons_self
  have hm1 := (fields_fn hok.ok f1m).2
  have hm2 := (fields_fn hok.ok f2m).2
  rw [hfx] at hfv
  unfold famFs at hfv
  match fvs, hfv, ef with
  | [_, _], .cons ⟨fa1, rfl, ea1⟩ (.cons ⟨fa2, rfl, ea2⟩ .nil), ef =>
  have ek7 := s7 _ _ eks
  have t07 := t06.same s7
  have hp7 := t07.pen
  have hR7 := hR6.same s7
  clear s7 eks hp6 t06 hR6 n7
  walk_at "w_go"
  refine ⟨p, c, L, qs, rows, ts.map (·.kind) ++ [x], m1, t1, 3, rfl, hp7, hR7, hok, ek7, by rw [List.length_append, List.length_map, List.length_singleton]; omega, hm1, by decide, fun z1 v1 H8 t8 hv1 hb1 hz1 => ?_⟩
  have ek8 := t8.at hp7 ek7 rfl
  have ef8 := t8.at hp7 ef rfl
  have ea18 := t8.at hp7 ea1 rfl
  have ea28 := t8.at hp7 ea2 rfl
  have t08 := t07.trans t8
  have hp8 := t08.pen
  have hR8 := hR7.step hp7 t8
  have hv1' : FvR (fun b => H b = none ∧ ∃ o, H8 b = some o) false H8 z1 v1 := hv1.sub fun b o z e _ => ⟨t07.free z, o, e⟩
  clear ek7 ef ea1 ea2 t07 hp7 hR7 t8 hv1
  walk_at "w_go"
  refine ⟨p, c, L, qs, rows, ts.map (·.kind) ++ [x], m2, t2, 3, rfl, hp8, hR8, hok, ek8, by rw [List.length_append, List.length_map, List.length_singleton]; omega, hm2, by decide, fun z2 v2 H9 t9 hv2 hb2 hz2 => ?_⟩
  have ef9 := t9.at hp8 ef8 rfl
  have ea19 := t9.at hp8 ea18 rfl
  have ea29 := t9.at hp8 ea28 rfl
  have t09 := t08.trans t9
  have hp9 := t09.pen
  have hv19 : FvR (fun b => H b = none ∧ ∃ o, H8 b = some o) false H9 z1 v1 := hv1'.kps (t9.kps fun z => by
    obtain ⟨o, ho⟩ := hp.some_p
    rw [z.1] at ho
    cases ho)
  have hv29 : FvR (fun b => H8 b = none ∧ ∃ o, H9 b = some o) false H9 z2 v2 := hv2.sub fun b o z e _ => ⟨z, o, e⟩
  clear ek8 ef8 ea18 ea28 hp8 hR8 hv1' hv2
  walk_at "w_go"
  refine ⟨p, c, rfl, hp9, fun n H10 t10 n1 n2 => ?_⟩
  have ef10 := t10.at hp9 ef9 rfl
  have ea110 := t10.at hp9 ea19 rfl
  have ea210 := t10.at hp9 ea29 rfl
  have hp10 := t10.pen
  walk_at "w_go"
  refine r_take hp10 (by decide) (by decide) (fun way H11 b0 b1 t11 => ?_)
  obtain ⟨way, rfl⟩ := Int.eq_ofNat_of_zero_le b0
  have ef11 := t11.at hp10 ef10 rfl
  have ea111 := t11.at hp10 ea110 rfl
  have ea211 := t11.at hp10 ea210 rfl
  have t911 := t10.trans t11
  have hp11 := t11.pen
  clear ef9 ea19 ea29 ef10 ea110 ea210 hp10 t10 t11
  walk_at "w_go"
  rename_i qd H12 n12 s12 e12
  have ef12 := s12 _ _ ef11
  have ea112 := s12 _ _ ea111
  have ea212 := s12 _ _ ea211
  refine ⟨m1, rfl, fun w1 H13 s13 hw1 => ?_⟩
  have ef13 := s13 _ _ ef12
  have ea113 := s13 _ _ ea112
  have ea213 := s13 _ _ ea212
  have e13 := s13 _ _ e12
  walk_at "w_go"
  refine ⟨m2, rfl, fun w2 H14 s14 hw2 => ?_⟩
  have e14 := s14 _ _ e13
  walk_at "w_go"
  refine r_dispE [((Sum.inr (("link" : Str)) : Key), w1), ((Sum.inr (("parts" : Str)) : Key), w2)] [((Sum.inr (("link" : Str)) : Key), w1), ((Sum.inr (("parts" : Str)) : Key), w2)] e14 rfl (by show 2 ≤ 15; decide) rfl ?_
  have sZ : Same H11 (upd H14 qd (.dK [((Sum.inr (("link" : Str)) : Key), w1), ((Sum.inr (("parts" : Str)) : Key), w2)])) := same_put ((s12.trans s13).trans s14) n12
  have hdZ : FullD (New H11) false (upd H14 qd (.dK [((Sum.inr (("link" : Str)) : Key), w1), ((Sum.inr (("parts" : Str)) : Key), w2)])) (fieldsF rows x) [emptyFV m1, emptyFV m2] qd [((Sum.inr (("link" : Str)) : Key), w1), ((Sum.inr (("parts" : Str)) : Key), w2)] := by
    rw [hfx]
    have k1 : FvR (New H11) false H14 (emptyFV m1) w1 := (hw1.kps (.of s14)).sub fun a o z _ _ => s12.free z
    have k2 : FvR (New H11) false H14 (emptyFV m2) w2 := hw2.sub fun a o z _ _ => (s12.trans s13).free z
    exact ⟨upd_same, n12, rfl, .cons (k1.putD e14) (.cons (k2.putD e14) .nil)⟩
  generalize upd H14 qd (.dK [((Sum.inr (("link" : Str)) : Key), w1), ((Sum.inr (("parts" : Str)) : Key), w2)]) = H15 at sZ hdZ ⊢
  have ed := hdZ.at_
  clear ef12 ea112 ea212 ef13 ea113 ea213 e13 e14 s12 s13 s14 e12 hw1 hw2 ef11 ea111 ea211
  walk_at "w_go"
  rename_i qi H16 n16 s16 e16
  have e16' : H16 qi = some (.lst (numsV [1, 3, 5, 6])) := e16
  refine r_inN e16' ?_
  walk_at "w_go"
  refine r_int1b ?_
  have hmul := wTag_mul way n
  have hkk : (if decide (way ∈ [1, 3, 5, 6]) = true then (1 : Int) else 0) = 0 ∨ (if decide (way ∈ [1, 3, 5, 6]) = true then (1 : Int) else 0) = 1 := by
    split
    · exact .inr rfl
    · exact .inl rfl
  generalize (if decide (way ∈ [1, 3, 5, 6]) = true then (1 : Int) else 0) = kk at hmul hkk ⊢
  walk_at "w_go"
  refine r_i (.inr (by omega)) ?_
  rw [hmul]
  walk_at "w_s"
  walk_at "w_s"
  walk_at "w_s"
  walk_at "w_s"
  rename_i qt H17 n17 s17 e17
  have s1517 := s16.trans s17
  have nqt : H11 qt = none := (sZ.trans s16).free n17
  have sY := sZ.trans s1517
  have hdY := hdZ.kps (.of s1517)
  have ndx := fields_names hok hxn
  have hf0 : (fieldsF rows x)[0]? = some (("link" : Str), m1, t1, o) := by rw [hfx]; rfl
  have hf1 : (fieldsF rows x)[1]? = some (("parts" : Str), m2, t2, o) := by rw [hfx]; rfl
  have nH : ∀ b, (H b = none ∧ ∃ o, H8 b = some o) → ¬ (b = p) := fun b z1 z2 => by
    obtain ⟨o, ho⟩ := hp.some_p
    rw [← z2, z1.1] at ho
    cases ho
  have nH8 : ∀ b, (H8 b = none ∧ ∃ o, H9 b = some o) → ¬ (b = p) := fun b z1 z2 => by
    obtain ⟨o, ho⟩ := t08.pen.some_p
    rw [← z2, z1.1] at ho
    cases ho
  have hv111 := hv19.kps (t911.kps fun z => nH p z rfl)
  have hv211 := hv29.kps (t911.kps fun z => nH8 p z rfl)
  clear s16 n16 e16 e16' s17 ed sZ hdZ hkk hmul s1517 n17
  walk_at "w_s"
  walk_at "w_s"
  with_reducible refine r_joinS (fun σ H' => ∃ (kvs : List (Key × V)), σ = [some (.ref p), some (.ref L), some (.ref g), some (.ref TL), some (.str x), some (.ref qs), some (.ref qt), some (.ref qf), some v1, some v2, some (.int n), some (.int (way : Nat)), some (.ref qd), none, none] ∧ Same H11 H' ∧ FullD (New H11) false H' (fieldsF rows x) [wLink way m1 z1, emptyFV m2] qd kvs ∧ H' qt = some (.tup [.str x, .int (wTag way n), .ref qd])) ?_ (fun N hN => ?_)
  rotate_left
  · have ed17 := hdY.at_
    walk_at "w_go"
    rename_i qi H18 n18 s18 e18
    have e18' : H18 qi = some (.lst (numsV [2, 5, 6])) := e18
    refine r_inN e18' ?_
    walk_at "w_go"
    have hd18 := hdY.kps (.of s18)
    have s1118 := sY.trans s18
    by_cases hm : way ∈ [2, 5, 6]
    · refine iteT' (decide_eq_true hm) ?_
      have ed18 := hd18.at_
      walk_at "w_go"
      refine ⟨_, z1, v1, rfl, hv111.kps (.of s1118), fun v' H19 s19 hv' => ?_⟩
      have ed19 := s19 _ _ ed18
      have hd19 := hd18.kps (.of s19)
      walk_at "w_go"
      have hp2 := hd19.putV ndx hf0 (hv'.sub fun a o z _ _ => s1118.free z)
      have hw3 : wLink way m1 z1 = z1 := if_pos (by simpa using hm)
      rw [show [emptyFV m1, emptyFV m2].set 0 z1 = [wLink way m1 z1, emptyFV m2] from by rw [hw3]; rfl] at hp2
      exact hN _ _ ⟨_, rfl, same_put (s1118.trans s19) n12, hp2, (upd_ne (fun z => by have := s19 _ _ (s18 _ _ e17); rw [z, ed19] at this; cases this)).trans (s19 _ _ (s18 _ _ e17))⟩
    · refine iteF' (decide_eq_false hm) ?_
      walk_at "w_go"
      have hw3 : wLink way m1 z1 = emptyFV m1 := if_neg (by simpa using hm)
      rw [show [emptyFV m1, emptyFV m2] = [wLink way m1 z1, emptyFV m2] from by rw [hw3]] at hd18
      exact hN _ _ ⟨_, rfl, s1118, hd18, s18 _ _ e17⟩
  clear hdY sY e17
  rintro σ H18 ⟨kvs, rfl, s18, hd18, e18⟩
  walk_at "w_s"
  with_reducible refine r_joinS (fun σ H' => ∃ (kvs : List (Key × V)), σ = [some (.ref p), some (.ref L), some (.ref g), some (.ref TL), some (.str x), some (.ref qs), some (.ref qt), some (.ref qf), some v1, some v2, some (.int n), some (.int (way : Nat)), some (.ref qd), none, none] ∧ Same H11 H' ∧ FullD (New H11) false H' (fieldsF rows x) [wLink way m1 z1, wPart way m2 z2] qd kvs ∧ H' qt = some (.tup [.str x, .int (wTag way n), .ref qd])) ?_ (fun N hN => ?_)
  rotate_left
  · have ed18 := hd18.at_
    walk_at "w_go"
    rename_i qi H19 n19 s19 e19
    have e19' : H19 qi = some (.lst (numsV [3, 4, 5, 6])) := e19
    refine r_inN e19' ?_
    walk_at "w_go"
    have hd19 := hd18.kps (.of s19)
    have s1119 := s18.trans s19
    by_cases hm : way ∈ [3, 4, 5, 6]
    · refine iteT' (decide_eq_true hm) ?_
      have ed19 := hd19.at_
      walk_at "w_go"
      refine ⟨_, z2, v2, rfl, hv211.kps (.of s1119), fun v' H20 s20 hv' => ?_⟩
      have ed20 := s20 _ _ ed19
      have hd20 := hd19.kps (.of s20)
      have hkl : kvs.length ≤ 4 := by
        have := congrArg List.length hd18.keys
        rw [hfx] at this
        simp [keysF, famFs] at this
        omega
      walk_at "w_go"
      have hp2 := hd20.putV ndx hf1 (hv'.sub fun a o z _ _ => s1119.free z)
      have hw3 : wPart way m2 z2 = z2 := if_pos (by simpa using hm)
      rw [show [wLink way m1 z1, emptyFV m2].set 1 z2 = [wLink way m1 z1, wPart way m2 z2] from by rw [hw3]; rfl] at hp2
      exact hN _ _ ⟨_, rfl, same_put (s1119.trans s20) n12, hp2, (upd_ne (fun z => by have := s20 _ _ (s19 _ _ e18); rw [z, ed20] at this; cases this)).trans (s20 _ _ (s19 _ _ e18))⟩
    · refine iteF' (decide_eq_false hm) ?_
      walk_at "w_go"
      have hw3 : wPart way m2 z2 = emptyFV m2 := if_neg (by simpa using hm)
      rw [show [wLink way m1 z1, emptyFV m2] = [wLink way m1 z1, wPart way m2 z2] from by rw [hw3]] at hd19
      exact hN _ _ ⟨_, rfl, s1119, hd19, s19 _ _ e18⟩
  clear hd18 s18 e18
  rintro σ H19 ⟨kvs2, rfl, s19, hd19, e19⟩
  have hp19 := hp11.same s19
  have hv219 := hv211.kps (.of s19)
  walk_at "w_s"
  with_reducible refine r_joinS (fun σ H' => ∃ (v3 : V), σ = [some (.ref p), some (.ref L), some (.ref g), some (.ref TL), some (.str x), some (.ref qs), some (.ref qt), some (.ref qf), some v1, some v3, some (.int n), some (.int (way : Nat)), some (.ref qd), none, none] ∧ PenStep p c H19 H' ∧ (v3 = v2 ∨ ∃ a l, v3 = .ref a ∧ H19 a = none ∧ H' a = some (.tup (numsV l))) ∧ FvR (Live H') true H' z2 v3) ?_ (fun N hN => ?_)
  rotate_left
  · rcases z2 with (_ | k) | l
    · obtain rfl : v2 = .non := hv219
      walk_at "w_go"
      refine r_isi (.base .non) rfl ?_
      walk_at "w_go"
      exact hN _ _ ⟨_, rfl, PenStep.refl hp19, .inl rfl, rfl⟩
    · obtain rfl : v2 = .int (k : Nat) := hv219
      walk_at "w_go"
      refine r_isi (.base (.int _)) rfl ?_
      walk_at "w_go"
      exact hN _ _ ⟨_, rfl, PenStep.refl hp19, .inl rfl, rfl⟩
    · obtain ⟨va, rfl, hva, hvl | ⟨z, _⟩⟩ := hv219
      rotate_left
      · cases z
      walk_at "w_go"
      refine r_isi (.base (.lst hvl)) rfl ?_
      walk_at "w_go"
      refine r_bit hp19 (by decide) (by decide) (fun r H20 t20 => ?_)
      refine ⟨r, rfl, ?_⟩
      have hvl20 := t20.at hp19 hvl rfl
      cases r
      · refine iteF' rfl ?_
        walk_at "w_go"
        exact hN _ _ ⟨_, rfl, t20, .inl rfl, va, rfl, ⟨_, hvl20⟩, .inl hvl20⟩
      · refine iteT' rfl ?_
        walk_at "w_go"
        refine r_tupL (.of hvl20) (fun q3 n3 => ?_)
        have sx : Same H20 (upd H20 q3 (.tup (numsV l))) := same_new n3
        walk_at "w_go"
        exact hN _ _ ⟨_, rfl, t20.same sx, .inr ⟨q3, l, rfl, t20.free n3, upd_same⟩, q3, rfl, ⟨_, upd_same⟩, .inr ⟨rfl, upd_same⟩⟩
  rintro σ H20 ⟨v3, rfl, t20, hv3, hv3r⟩
  have hks : (ts.map (·.kind) ++ [x]).map some = ksOf ts ++ [some x] := by
    rw [List.map_append, List.map_map]
    rfl
  rw [hks] at hb1 hb2
  have t020 : PenStep p c H H20 := ((t09.trans t911).same s19).trans t20
  have st20 := hst.trans t020
  have hD20 := hD.step t020 nF
  have eT20 := t020.at hp eT rfl
  have nqtA : ¬ AG qt := fun z => by
    obtain ⟨o, ho⟩ := hD.lv _ (hD.sa _ z)
    have := (t09.trans t911).free nqt
    rw [ho] at this
    cases this
  have e20 := t20.at hp19 e19 rfl
  have hv120 : FvR (fun b => H b = none ∧ ∃ o, H8 b = some o) false H20 z1 v1 := (hv111.kps (.of s19)).kps (t20.kps fun z => nH p z rfl)
  have fr20 : Frm (fun b => F b ∨ b = p) H H20 := t020.frm.mono fun b z => .inr z
  walk_at "w_go"
  refine ⟨g, S, AG, rows, ts, 0, way, x, n, v1, v3, z1, z2, m1, t1, o, m2, t2, o, rfl, hD20.gr, (hsn.step hp0 st20).sch, hok, hD.ok, hxc, hfx, n1, n2, ?_, hv3r, hb1, hb2, by omega, by omega, by omega, by omega, by omega, fun H21 f21 gr21 => ?_⟩
  · exact (hv120.up (b := true)).sub fun b o z e _ => ⟨o, e⟩
  obtain ⟨A', hA', grA, th21, lvA, hAB⟩ := hD20.putG f21 gr21
  have eT21 : H21 TL = some (.lst vs0) := f21 _ _ (fun z => hD.ab _ z hfT) eT20
  have e21 := f21 _ _ nqtA e20
  have hd21 : FullD (fun b => H11 b = none ∧ ∃ o, H19 b = some o) false H21 (fieldsF rows x) [wLink way m1 z1, wPart way m2 z2] qd kvs2 := ((hd19.sub (G := fun b => H11 b = none ∧ ∃ o, H19 b = some o) fun a o z e _ => ⟨z, o, e⟩).kps (t20.kps fun z => by
    obtain ⟨o, ho⟩ := hp11.some_p
    rw [z.1] at ho
    cases ho)).kps (f21.kps fun b z1 z2 => by
    obtain ⟨o, ho⟩ := hD.lv _ (hD.sa _ z2)
    have := (t09.trans t911).free z1.1
    rw [ho] at this
    cases this)
  let W : Addr → Prop := fun b => H b = none ∧ ∃ o, H9 b = some o
  let N : Addr → Prop := fun b => H11 b = none ∧ ∃ o, H19 b = some o
  have wp : ∀ b, W b → b ≠ p := fun b z1 z2 => by
    obtain ⟨o, ho⟩ := hp.some_p
    rw [← z2, z1.1] at ho
    cases ho
  have w11 : ∀ b, W b → ∃ o, H11 b = some o := fun b z => by
    obtain ⟨o, ho⟩ := z.2
    exact ⟨o, t911.keep b o (wp b z) ho⟩
  have w20 : ∀ b, W b → ∃ o, H20 b = some o := fun b z => by
    obtain ⟨o, ho⟩ := w11 b z
    exact ⟨o, t20.keep b o (wp b z) (s19 _ _ ho)⟩
  have wA : ∀ b, W b → ¬ AG b := fun b z1 z2 => by
    obtain ⟨o, ho⟩ := hD.lv _ (hD.sa _ z2)
    rw [z1.1] at ho
    cases ho
  have wB : ∀ b, W b → ¬ BT b := fun b z1 z2 => by
    obtain ⟨o, ho⟩ := hD.lv _ (hD.sb _ z2)
    rw [z1.1] at ho
    cases ho
  have wN : ∀ b, W b → ¬ N b := fun b z1 z2 => by
    obtain ⟨o, ho⟩ := w11 b z1
    rw [z2.1] at ho
    cases ho
  have wA' : ∀ b, W b → ¬ A' b := fun b z1 z2 => by
    rcases hA' b z2 with z | z
    · exact wA b z1 z
    · obtain ⟨o, ho⟩ := w20 b z1
      rw [z] at ho
      cases ho
  have w21 : ∀ b, W b → ∃ o, H21 b = some o := fun b z => by
    obtain ⟨o, ho⟩ := w20 b z
    exact ⟨o, f21 b o (wA b z) ho⟩
  walk_at "w_go"
  rename_i ql H23 n23 s23 e23
  have nNT : ∀ b, N b → b ≠ TL := fun b z1 z2 => by
    have := (t09.trans t911).at hp eT rfl
    rw [← z2, z1.1] at this
    cases this
  have hq : RowR (fun a => (BT a ∨ N a) ∧ a ≠ TL) false H21 rows ⟨x, wTag way n, [wLink way m1 z1, wPart way m2 z2]⟩ (.ref qt) := ⟨qt, qd, kvs2, rfl, ⟨.inr ⟨nqt, _, e19⟩, nNT qt ⟨nqt, _, e19⟩⟩, e21, hd21.sub fun a o z _ _ => ⟨.inr z, nNT a z⟩⟩
  have th22 := ths_app0 th21 eT21 hq fun a z => .inl z
  have th23 := th22.kps (.of s23)
  have nT4 : ∀ a, A' a → a ≠ TL := fun a z e => hAB a z (e ▸ hfT)
  have gr23 := (grA.kps (fun b o z e => (upd_ne (nT4 b z)).trans e : Kps A' H21 (upd H21 TL (.lst (vs0 ++ [V.ref qt]))))).kps (.of s23)
  have k2223 : Kps W H21 H23 := (fun b o z e => s23 _ _ ((upd_ne (fun q : b = TL => wB b z (by rw [q]; exact hfT))).trans e))
  have k2023 : Kps W H20 H23 := (f21.kps fun b z1 z2 => wA b z1 z2).trans k2223
  have hv1W : FvR W false H20 z1 v1 := hv120.sub fun b o z _ _ => ⟨z.1, by
    obtain ⟨o, ho⟩ := z.2
    exact ⟨o, t9.keep b o (nH b z) ho⟩⟩
  have ty1 : HTy W H23 v1 10 := .of (hv1W.kps k2023) hz1
  have ty3 : HTy W H23 v3 10 := by
    rcases hv3 with rfl | ⟨a, l, rfl, na, ha⟩
    · have hv220 : FvR W false H20 z2 v3 := (hv219.kps (t20.kps fun z => nH8 p z rfl)).sub fun b o z _ _ => ⟨t08.free z.1, z.2⟩
      exact .of (hv220.kps k2023) hz2
    · have nA : ¬ AG a := fun z => by
        obtain ⟨o, ho⟩ := hD.lv _ (hD.sa _ z)
        have := ((t09.trans t911).same s19).free na
        rw [ho] at this
        cases this
      have ha21 := f21 _ _ nA ha
      exact .inr (.inr (.inl ⟨a, _, rfl, s23 _ _ ((upd_ne (fun z => by rw [z, eT21] at ha21; cases ha21)).trans ha21)⟩))
  have nWq : ¬ W ql := fun z => by
    obtain ⟨o, ho⟩ := w21 ql z
    rw [upd_ne (fun q : ql = TL => wB ql z (by rw [q]; exact hfT)), ho] at n23
    cases n23
  have eT23 : H23 TL = some (.lst (vs0 ++ [V.ref qt])) := s23 _ _ upd_same
  refine r_ilK (.of e23) (for_list (K := K) (a := ql) (xs := [v1, v3]) (fun i σ H' => ∃ (v14 : Option V), σ = [some (.ref p), some (.ref L), some (.ref g), some (.ref TL), some (.str x), some (.ref qs), some (.ref qt), some (.ref qf), some v1, some v3, some (.int n), some (.int (way : Nat)), some (.ref qd), some (.int (ts.length : Nat)), v14] ∧ Frm W H23 H' ∧ HTy W H' v1 (10 + i) ∧ HTy W H' v3 (10 + i)) ⟨none, rfl, .of (Same.refl _), ty1, ty3⟩ ?_ ?_ ?_)
  · rintro i σ H' _ ⟨v14, rfl, fr, _⟩
    exact .of (fr _ _ nWq e23)
  · rintro i y σ H' hi ⟨v14, rfl, fr, h1, h3⟩
    have hi2 : i < 2 := (List.getElem?_eq_some_iff.mp hi).1
    have hy : HTy W H' y (10 + i) := by
      have := List.mem_of_getElem? hi
      rcases List.mem_cons.mp this with rfl | this
      · exact h1
      · rw [List.mem_singleton.mp this]
        exact h3
    clear ty1 ty3 e23
    walk_at "w_go"
    rcases hy with rfl | ⟨j, rfl⟩ | ⟨a, ys, rfl, ha⟩ | ⟨a, ys, rfl, hw, ha, hl⟩
    · refine r_isi (.base .non) rfl ?_
      walk_at "w_go"
      exact ⟨_, rfl, fr, h1.mono, h3.mono⟩
    · refine r_isi (.base (.int _)) rfl ?_
      walk_at "w_go"
      exact ⟨_, rfl, fr, h1.mono, h3.mono⟩
    · refine r_isi (.base (.tup ha)) rfl ?_
      walk_at "w_go"
      exact ⟨_, rfl, fr, h1.mono, h3.mono⟩
    · refine r_isi (.base (.lst ha)) rfl ?_
      walk_at "w_go"
      exact ⟨_, rfl, fr.put hw, h1.app ha hl, h3.app ha hl⟩
  · rintro σ H24 ⟨v14, rfl, fr, _, _⟩
    have eT24 := fr _ _ (fun z => wB _ z hfT) eT23
    walk_at "w_go"
    refine ⟨.int (ts.length : Nat), true, rfl, .int _, ?_⟩
    refine ⟨true, rfl, ?_⟩
    refine iteT' rfl ?_
    walk_at "w_go"
    have hdec : decide ((ts.length : Int) = ((vs0 ++ [V.ref qt]).length : Nat) - 1) = true := decide_eq_true (by rw [List.length_append, List.length_singleton]; omega)
    have e0 : ∀ m, (emptyFV m).nums.length = 0 := fun m => by rw [empty_nums]; rfl
    have l1 : (wLink way m1 z1).nums.length ≤ 4 := by
      unfold wLink
      split
      · exact hz1
      · rw [e0]
        omega
    have l2 : (wPart way m2 z2).nums.length ≤ 4 := by
      unfold wPart
      split
      · exact hz2
      · rw [e0]
        omega
    have b1' : fvB rows (ksOf ts ++ [some x]) m1 t1 (wLink way m1 z1) = true := by
      unfold wLink
      split
      · exact hb1
      · exact empty_ok _ _ _ _
    have b2' : fvB rows (ksOf ts ++ [some x]) m2 t2 (wPart way m2 z2) = true := by
      unfold wPart
      split
      · exact hb2
      · exact empty_ok _ _ _ _
    have w1' : -MT ≤ wTag way n ∧ wTag way n ≤ MT := by
      unfold wTag
      split
      · exact ⟨n1, n2⟩
      · unfold MT
        decide
    have hll : (([wLink way m1 z1, wPart way m2 z2] : List FV).flatMap FV.nums).length ≤ 8 := by
      simp only [List.flatMap_cons, List.flatMap_nil, List.length_append, List.length_nil]
      omega
    have hGO : GrOk rows (ts ++ [⟨x, wTag way n, [wLink way m1 z1, wPart way m2 z2]⟩]) := add_ok hD.ok hxc w1'.1 w1'.2 (by rw [hfx]; exact .cons b1' (.cons b2' .nil)) (by omega) (by omega)
    obtain ⟨F', A2, B2, hD6, hF6, _⟩ := hD.fin (gr23.kps (fr.kps fun b z1 z2 => wA' b z2 z1)) (fun b z => (hA' b z).imp id fun z => t020.free z) (th23.kps (fr.kps fun b z1 z2 => z1.elim (wB b z2) (wN b z2))) (fun b z => .inr ((t09.trans t911).free z.1)) (fun b z1 z2 => by
      rcases hA' b z1 with z | z
      · obtain ⟨o, ho⟩ := hD.lv _ (hD.sa _ z)
        have := (t09.trans t911).free z2.1
        rw [ho] at this
        cases this
      · obtain ⟨o, ho⟩ := z2.2
        have := t20.keep b o (fun q => by
          obtain ⟨o2, ho2⟩ := hp11.some_p
          rw [← q, z2.1] at ho2
          cases ho2) ho
        rw [z] at this
        cases this) hAB hGO
    have st21 := st20.frm2 hp0 f21 (fun b z => hF0 b (hD.sa b z))
    have st24 : PenStep p c B0 H24 := ((st21.put hp0 nTL).same s23).frm2 hp0 fr (fun b z => hst.free z.1)
    have fr21 := fr20.trans (f21.mono (S' := fun b => F b ∨ b = p) fun b z => .inl (hD.sa b z))
    have fr23 := (fr21.put (o := .lst (vs0 ++ [V.ref qt])) (.inl (hD.sb _ hfT))).same s23
    have fr24 : Frm (fun b => F b ∨ b = p) H H24 := fun b o nb e => fr b o (fun z => by rw [z.1] at e; cases e) (fr23 b o nb e)
    have hh2 : heldN (ts ++ [⟨x, wTag way n, [wLink way m1 z1, wPart way m2 z2]⟩]) ≤ 8 * (ts ++ [(⟨x, wTag way n, [wLink way m1 z1, wPart way m2 z2]⟩ : Tg)]).length := by
      rw [held_add, List.length_append, List.length_singleton]
      have : (heldT ⟨x, wTag way n, [wLink way m1 z1, wPart way m2 z2]⟩).length ≤ 8 := hll
      omega
    have hQ := q _ F' A2 B2 H24 st24 fr24 hD6 hF6 (by rw [List.length_append, List.length_singleton]) hh2
    rw [← hdec] at hQ
    exact hQ
end
end Wm
namespace Wm
open PySem L2

section
variable {P : Program} {w : World} {K : PySem.W.Frag} {mg : Str → Option Value} {base : Heap} {ad : Ad}
theorem ok_law (T : Txt P K mg ad) : FnOk P w K mg base (L2.CX P w) 12 ad.law ad.fd_law ["_law_script"] (spLaw K) := by
  refine T.F_law.okX sc_law (fun vs H Q E h => ?_) (fun cdv A outer s H vs Q E hr h => ?_)
  · obtain ⟨a, ns, rfl, _⟩ := h
    rfl
  obtain ⟨a, ns, rfl, hS, kEnd⟩ := h
  refine ⟨_, (pss_cons (ps_set (i := 1) sc_law.nd rfl (Or.inl rfl) (pe_call (ok_l_pen T) (hr.mono (by decide)) rfl T.g_l_pen T.F_l_pen.kp T.b_l_pen .nil passL (pa_cons (pv 0) pa_nil)))
    (pss_cons (ps_set (i := 2) sc_law.nd rfl (Or.inl rfl) (pe_call (ok_l_family T) (hr.mono (by decide)) rfl T.g_l_family T.F_l_family.kp T.b_l_family .nil passL (pa_cons (pv 1) pa_nil)))
    (pss_cons (ps_set (i := 3) sc_law.nd rfl (Or.inl rfl) (pe_make T.mk_Schema (ok_Schema_init T) (hr.mono (by decide)) rfl T.g_Schema T.b_Schema_init .nil passL (pa_cons (pe_callTy c_list (by rfl) T.n_list (by decide +kernel) (pa_cons (pv 2) pa_nil)) pa_nil)))
    (pss_cons (ps_set (i := 4) sc_law.nd rfl (Or.inl rfl) (pe_lst (pa_cons (pe_make T.mk_Graph (ok_Graph_init T) (hr.mono (by decide)) rfl T.g_Graph T.b_Graph_init .nil passL (pa_cons (pv 3) pa_nil)) (pa_cons (pe_make T.mk_Graph (ok_Graph_init T) (hr.mono (by decide)) rfl T.g_Graph T.b_Graph_init .nil passL (pa_cons (pv 3) pa_nil)) pa_nil))))
    (pss_cons (ps_set (i := 5) sc_law.nd rfl (Or.inl rfl) (pe_lst (pa_cons (pe_lst pa_nil) (pa_cons (pe_lst pa_nil) pa_nil))))
    (pss_cons (ps_if (PW.pt (pw_or (pt_cmpR op_ne (pe_callB (c_lenOwn (ok_Graph_len T) (hr.mono (by decide)) T.me_Graph_len T.b_Graph_len passL) (by rfl) T.n_len PySem.boot_len (pa_cons (pe_ix ix_list (pv 4) pe_int (fun _ _ => rfl)) pa_nil)) pe_int (nomark _)) (pw_or (pt_cmpR op_ne (pe_prop (pe_ix ix_list (pv 4) pe_int (fun _ _ => rfl)) T.ow_Graph.cl T.pp_Graph_size (ok_Graph_size T) (hr.mono (by decide)) T.b_Graph_size .nil passL rfl) pe_int (nomark _)) (pw_or (pt_cmpR op_ne (pe_prop (pe_ix ix_list (pv 4) pe_int (fun _ _ => rfl)) T.ow_Graph.cl T.pp_Graph_root (ok_Graph_root T) (hr.mono (by decide)) T.b_Graph_root .nil passL rfl) pe_int (nomark _)) (pw_or1 (pt_cmpR op_ne (ClX.pe_cval (pe_glob (v := .ref ad.Graph) rfl T.g_Graph rfl)) pe_int (nomark _))))))) (pss_one (ps_ret pe_bl)) pss_nil)
    (pss_cons (ps_for (passes_of rfl) rfl (pi_range1 rfl T.n_range (pa_cons (pe_op op_add (pe_call (ok_l_take T) (hr.mono (by decide)) rfl T.g_l_take T.F_l_take.kp T.b_l_take .nil passL (pa_cons (pv 1) (pa_cons pe_int pa_nil))) (pe_call (ok_l_take T) (hr.mono (by decide)) rfl T.g_l_take T.F_l_take.kp T.b_l_take .nil passL (pa_cons (pv 1) (pa_cons pe_int pa_nil)))) pa_nil)) (pg_name (i := 6) sc_law.nd rfl (Or.inl rfl)) (pss_cons (ps_set (i := 7) sc_law.nd rfl (Or.inl rfl) (pe_call (ok_l_take T) (hr.mono (by decide)) rfl T.g_l_take T.F_l_take.kp T.b_l_take .nil passL (pa_cons (pv 1) (pa_cons pe_int pa_nil))))
    (pss_one (ps_if (PW.pt (pw_and (pt_cmpR op_lt (pe_callB c_len (by rfl) T.n_len PySem.boot_len (pa_cons (pe_ix ix_list (pv 5) (pv 7) (fun _ _ => rfl)) pa_nil)) pe_int (nomark _)) (pw_and1 (pt_not (pt_val (pe_call (ok_l_one_more T) hr rfl T.g_l_one_more T.F_l_one_more.kp T.b_l_one_more .nil passL (pa_cons (pv 1) (pa_cons (pv 2) (pa_cons (pe_ix ix_list (pv 4) (pv 7) (fun _ _ => rfl)) (pa_cons (pe_ix ix_list (pv 5) (pv 7) (fun _ _ => rfl)) pa_nil)))))))))) (pss_one (ps_ret pe_bl)) pss_nil))))
    (pss_cons (ps_if (PW.pt (pw_or (pt_cmpR op_ne (ClX.pe_cval (pe_glob (v := .ref ad.Graph) rfl T.g_Graph rfl)) pe_int (nomark _)) (pw_or1 (pt_not (pt_cmpR (op_eqOwn (ok_Schema_eq T) (hr.mono (by decide)) T.me_Schema_eq T.b_Schema_eq passL) (pe_fld (pe_ix ix_list (pv 4) pe_int (fun _ _ => rfl)) rfl) (pv 3) (nomark _)))))) (pss_one (ps_ret pe_bl)) pss_nil)
    (pss_one (ps_ret (pe_and (pe_call (ok_l_shows T) (hr.mono (by decide)) rfl T.g_l_shows T.F_l_shows.kp T.b_l_shows .nil passL (pa_cons (pe_ix ix_list (pv 4) pe_int (fun _ _ => rfl)) (pa_cons (pv 2) (pa_cons (pe_ix ix_list (pv 5) pe_int (fun _ _ => rfl)) (pa_cons pe_int pa_nil))))) (pe_one (pe_call (ok_l_shows T) (hr.mono (by decide)) rfl T.g_l_shows T.F_l_shows.kp T.b_l_shows .nil passL (pa_cons (pe_ix ix_list (pv 4) pe_int (fun _ _ => rfl)) (pa_cons (pv 2) (pa_cons (pe_ix ix_list (pv 5) pe_int (fun _ _ => rfl)) (pa_cons pe_int pa_nil))))))))))))))))), ?_⟩
  rw [show L2.start ["_law_script", "_law_pen_here", "_law_rows", "_law_schema", "_law_graphs", "_law_models", "_law_turn", "_law_at"] [V.ref a] = [some (V.ref a), none, none, none, none, none, none, none] from rfl]
  have cl := T.ow_Graph.cl
  walk_at "w_go"
  refine ⟨a, ns, rfl, hS, fun p c H1 hp s1 n1 => ?_⟩
  walk_at "w_go"
  refine ⟨p, c, rfl, hp, fun rows m1 t1 m2 t2 o L H2 st2 n2 hR2 hok hfam hm1 hm2 => ?_⟩
  have hp2 := st2.pen
  clear st2 n2 hp n1 s1
  obtain ⟨rvs, eL2, hrv2⟩ := id hR2
  walk_at "w_go"
  rename_i qh H8 n8 s8 e8 S dx H9 n9 s9 e9
  have s29 := s8.trans s9
  refine ⟨S, dx, qh, rows, rfl, e9, ⟨rvs, s9 _ _ e8, all2_rows hrv2 (tx_same s29)⟩, hok, fun H10 b10 sc10 nd10 => ?_⟩
  have s210 : Same H2 H10 := same_but (s8.free n9) s29 b10
  have hp10 := hp2.same s210
  have sn10 := SchN.of sc10 nd10 (hp2.same s29).some_p
  have hR10 := hR2.same s210
  clear nd10 b10 e9 s9 n9 e8 s8 n8 s29 hp2 hR2 eL2 hrv2 s210
  walk_at "w_go"
  rename_i g1 dx1 H11 n11 s11 e11
  refine ⟨g1, dx1, S, rfl, e11, fun tl1 H12 b12 ntl1 netl1 etl1 eg1 => ?_⟩
  walk_at "w_go"
  rename_i g2 dx2 H13 n13 s13 e13
  have eg1b := s13 _ _ eg1
  have etl1b := s13 _ _ etl1
  refine ⟨g2, dx2, S, rfl, e13, fun tl2 H14 b14 ntl2 netl2 etl2 eg2 => ?_⟩
  have hg12 : g1 ≠ g2 := ne_of_none eg1 n13
  have ht12 : tl1 ≠ g2 := ne_of_none etl1 n13
  have eg1c := b14 _ _ hg12 eg1b
  have etl1c := b14 _ _ ht12 etl1b
  have s1012 : Same H10 H12 := same_but n11 s11 b12
  have s1214 : Same H12 H14 := same_but n13 s13 b14
  walk_at "w_go"
  rename_i qG H15 n15 s15 e15 T1 H16 n16 s16 e16 T2 H17 n17 s17 e17 qM H18 n18 s18 e18
  have sB := ((s15.trans s16).trans s17).trans s18
  have s1014 := s1012.trans s1214
  have e16b := (s17.trans s18) _ _ e16
  have e17b := s18 _ _ e17
  have nT1 : T1 ≠ tl1 := fun z => by
    rw [z, s15 _ _ etl1c] at n16
    cases n16
  have nT2 : T2 ≠ tl2 := fun z => by
    rw [z, (s15.trans s16) _ _ etl2] at n17
    cases n17
  have W : Wg ad.Kind ad.Schema ad.Graph p c L S qG qM g1 g2 T1 T2 rows [] [] (fun b => b = g1 ∨ b = tl1 ∨ b = T1) (fun b => b = g2 ∨ b = tl2 ∨ b = T2) H10 H18 := by
    refine ⟨hp10, hp10.step (s1014.trans sB), hR10, sn10, Duo.mk0 (sB _ _ eg1c) (sB _ _ etl1c) e16b nT1, Duo.mk0 (sB _ _ eg2) (sB _ _ etl2) e17b nT2, fun a z => ?_, fun a z => ?_, fun a z1 z2 => ?_, ((s16.trans s17).trans s18) _ _ e15, e18⟩
    · have k17 := (s15.trans s16).trans s17
      rcases z with rfl | rfl | rfl
      · exact ⟨n11, ne_of_none eg1c n15, ne_of_none (k17 _ _ eg1c) n18⟩
      · exact ⟨s11.free ntl1, ne_of_none etl1c n15, ne_of_none (k17 _ _ etl1c) n18⟩
      · exact ⟨(s1014.trans s15).free n16, (ne_of_none e15 n16).symm, ne_of_none (s17 _ _ e16) n18⟩
    · have k17 := (s15.trans s16).trans s17
      rcases z with rfl | rfl | rfl
      · exact ⟨s1012.free n13, ne_of_none eg2 n15, ne_of_none (k17 _ _ eg2) n18⟩
      · exact ⟨(s1012.trans s13).free ntl2, ne_of_none etl2 n15, ne_of_none (k17 _ _ etl2) n18⟩
      · exact ⟨(s1014.trans (s15.trans s16)).free n17, (ne_of_none (s16 _ _ e15) n17).symm, ne_of_none e17 n18⟩
    · have t2a : T1 ≠ T2 := ne_of_none e16 n17
      have a1 : tl1 ≠ tl2 := ne_of_none etl1b ntl2
      have a2 : g1 ≠ tl2 := ne_of_none eg1b ntl2
      have a3 : T1 ≠ g2 := (ne_of_none (s15 _ _ eg2) n16).symm
      have a4 : T1 ≠ tl2 := (ne_of_none (s15 _ _ etl2) n16).symm
      have a5 : g1 ≠ T2 := ne_of_none ((s15.trans s16) _ _ eg1c) n17
      have a6 : tl1 ≠ T2 := ne_of_none ((s15.trans s16) _ _ etl1c) n17
      rcases z1 with rfl | rfl | rfl
      · exact z2.elim hg12 fun z => z.elim a2 a5
      · exact z2.elim ht12 fun z => z.elim a1 a6
      · exact z2.elim a3 fun z => z.elim a4 t2a
  clear sB s1014 e16b e17b nT1 nT2 e15 e16 e17 e18
  obtain ⟨A1, B1, d1⟩ := W.d1
  have eG := W.eG
  obtain ⟨gdx, gtl, gads, gin⟩ := id d1.gr
  have eg := gin.at_
  walk_at "w_go"
  refine r_lenOwn eg ⟨g1, S, A1, rows, [], 0, rfl, d1.gr, ?_⟩
  refine ⟨_, rfl, by decide, by decide, ?_⟩
  walk_at "w_go"
  refine iteF' (by rfl) ?_
  walk_at "w_go"
  refine ⟨g1, S, A1, rows, [], 0, rfl, d1.gr, ?_⟩
  walk_at "w_go"
  refine iteF' (by rfl) ?_
  walk_at "w_go"
  refine ⟨g1, S, A1, rows, [], 0, rfl, d1.gr, ?_⟩
  obtain ⟨mc1, u1, cr1, cv1⟩ := T.cr_Graph_THINGS
  walk_at "w_go"
  clear cr1 cv1
  refine r_take W.st.pen (by decide) (by decide) (fun r Ha b0 b1 ta => ?_)
  obtain ⟨ka, rfl⟩ := Int.eq_ofNat_of_zero_le b0
  have Wa := W.step ta
  walk_at "w_go"
  refine r_take Wa.st.pen (by decide) (by decide) (fun r Hb c0 c1 tb => ?_)
  obtain ⟨kb, rfl⟩ := Int.eq_ofNat_of_zero_le c0
  have Wb := Wa.step tb
  walk_at "w_go"
  refine ⟨((ka + kb : Nat) : Int), by rw [show ((ka : Int) + (kb : Int)) = ((ka + kb : Nat) : Int) from by omega], by omega, by omega, ?_⟩
  refine for_range (lo := 0) (n := ka + kb) (fun i σ H' => ∃ (v6 v7 : Option V) (F1 F2 : Addr → Prop) (us1 us2 : List Tg), σ = [some (.ref a), some (.ref p), some (.ref L), some (.ref S), some (.ref qG), some (.ref qM), v6, v7] ∧ Wg ad.Kind ad.Schema ad.Graph p c L S qG qM g1 g2 T1 T2 rows us1 us2 F1 F2 H10 H' ∧ heldN us1 ≤ 8 * us1.length ∧ heldN us2 ≤ 8 * us2.length ∧ us1.length ≤ 12 ∧ us2.length ≤ 12) ⟨_, _, _, _, [], [], rfl, Wb, Nat.zero_le _, Nat.zero_le _, by simp, by simp⟩ ?_ ?_
  · rintro i σ H18 hi ⟨v6, v7, F1, F2, us1, us2, rfl, W, hh1, hh2, hm1', hm2'⟩
    walk_at "w_go"
    refine r_take W.st.pen (by decide) (by decide) (fun r H19 b0 b1 t19 => ?_)
    have W1 := W.step t19
    have eM1 := W1.eM
    have eG1 := W1.eG
    rcases (show r = 0 ∨ r = 1 by omega) with rfl | rfl
    · walk_at "w_go"
      obtain ⟨A1, B1, d1⟩ := W1.d1
      obtain ⟨tv, fT, eT, htv⟩ := id d1.th
      have hl := htv.len
      walk_at "w_go"
      by_cases h12 : us1.length < 12
      · refine iteT' (decide_eq_true (by omega)) ?_
        walk_at "w_go"
        refine ⟨p, c, L, T1, g1, S, H10, F1, A1, B1, rows, us1, m1, t1, m2, t2, o, rfl, W1.hp0, W1.st, W1.hR, hok, W1.sn, hfam, d1, W1.np1, fun a z => (W1.n1 a z).1, h12, hh1, fun ws F' A' B' H20 st20 fr20 d20 hF20 hl20 hh20 => ?_⟩
        have W2 := W1.ch1 st20 fr20 ⟨A', B', d20⟩ hF20
        refine ⟨_, rfl, ?_⟩
        refine iteF' rfl ?_
        exact ⟨_, _, _, _, _, _, rfl, W2, by first | exact hh20 | exact hh1, by first | exact hh2 | exact hh20, by omega, by omega⟩
      · refine iteF' (decide_eq_false (by omega)) ?_
        exact ⟨_, _, _, _, _, _, rfl, W1, hh1, hh2, hm1', hm2'⟩
    · walk_at "w_go"
      obtain ⟨A1, B1, d1⟩ := W1.d2
      obtain ⟨tv, fT, eT, htv⟩ := id d1.th
      have hl := htv.len
      walk_at "w_go"
      by_cases h12 : us2.length < 12
      · refine iteT' (decide_eq_true (by omega)) ?_
        walk_at "w_go"
        refine ⟨p, c, L, T2, g2, S, H10, F2, A1, B1, rows, us2, m1, t1, m2, t2, o, rfl, W1.hp0, W1.st, W1.hR, hok, W1.sn, hfam, d1, W1.np2, fun a z => (W1.n2 a z).1, h12, hh2, fun ws F' A' B' H20 st20 fr20 d20 hF20 hl20 hh20 => ?_⟩
        have W2 := W1.ch2 st20 fr20 ⟨A', B', d20⟩ hF20
        refine ⟨_, rfl, ?_⟩
        refine iteF' rfl ?_
        exact ⟨_, _, _, _, _, _, rfl, W2, by first | exact hh20 | exact hh1, by first | exact hh2 | exact hh20, by omega, by omega⟩
      · refine iteF' (decide_eq_false (by omega)) ?_
        exact ⟨_, _, _, _, _, _, rfl, W1, hh1, hh2, hm1', hm2'⟩
  · rintro σ H18 ⟨v6, v7, F1, F2, us1, us2, rfl, W, hh1, hh2, hm1', hm2'⟩
    clear Wb Wa
    obtain ⟨A1, B1, d1⟩ := W.d1
    obtain ⟨A2, B2, d2⟩ := W.d2
    have eGi := W.eG
    have eMi := W.eM
    obtain ⟨gdx1, gtl1, gads1, gin1⟩ := id d1.gr
    have eg1 := gin1.at_
    have sci := (W.sn.step W.hp0 W.st).sch
    obtain ⟨sdx, _, _, _, _, _, hsin⟩ := id sci
    have f1 := T.no_Graph_schema
    obtain ⟨mc1, u1, cr1, cv1⟩ := T.cr_Graph_REFERENCES
    walk_at "w_go"
    refine r_rEqOwn hsin.at_ (T.ow_Schema.ty hsin.at_) T.nfo_Schema ⟨S, S, rows, rows, rfl, sci, sci, ?_⟩
    refine ⟨⟨_, rfl⟩, _, rfl, ?_⟩
    refine iteF' (by simp) ?_
    walk_at "w_go"
    refine ⟨g1, S, L, T1, rows, A1, B1, us1, 0, rfl, W.hR.step W.hp0 W.st, hok, d1.gr, d1.th, d1.ok, fun Hy sy => ?_⟩
    have Wy := W.same sy
    have dy := d2.same sy
    have eGy := Wy.eG
    have eMy := Wy.eM
    refine ⟨_, rfl, ?_⟩
    refine iteT' rfl ?_
    walk_at "w_go"
    refine ⟨g2, S, L, T2, rows, A2, B2, us2, 0, rfl, Wy.hR.step Wy.hp0 Wy.st, hok, dy.gr, dy.th, dy.ok, fun Hz sz => ?_⟩
    exact kEnd _
end
end Wm
namespace Wm
open PySem L2

theorem fm_BadSchema : PySem.Er.IForm ["at"] (defArgs s_BadSchema_init) (defBody s_BadSchema_init) (defScope s_BadSchema_init) :=
  PySem.Er.IForm.one _ _ _ _ _ _ _ _ _ _ _ _ _ (fun _ _ _ _ _ => ⟨_, rfl⟩) (fun _ _ _ _ _ => rfl) ⟨fun _ _ _ _ _ _ _ _ _ vs hl => match vs, hl with | [_], _ => rfl, ⟨_, rfl, rfl⟩, rfl, rfl, rfl, (by
      intro f hf
      simp only [List.mem_cons, List.not_mem_nil, or_false] at hf
      rcases hf with rfl <;> exact ⟨rfl, by decide⟩), fun x vs hl => match vs, hl with | [_], _ => rfl, (fun x vs i f v hl h1 h2 => match vs, hl, i, h1, h2 with | [_], _, 0, h1, h2 => by cases h1; cases h2; rfl), by decide⟩
theorem fm_NoKind : PySem.Er.IForm ["kind"] (defArgs s_NoKind_init) (defBody s_NoKind_init) (defScope s_NoKind_init) :=
  PySem.Er.IForm.one _ _ _ _ _ _ _ _ _ _ _ _ _ (fun _ _ _ _ _ => ⟨_, rfl⟩) (fun _ _ _ _ _ => rfl) ⟨fun _ _ _ _ _ _ _ _ _ vs hl => match vs, hl with | [_], _ => rfl, ⟨_, rfl, rfl⟩, rfl, rfl, rfl, (by
      intro f hf
      simp only [List.mem_cons, List.not_mem_nil, or_false] at hf
      rcases hf with rfl <;> exact ⟨rfl, by decide⟩), fun x vs hl => match vs, hl with | [_], _ => rfl, (fun x vs i f v hl h1 h2 => match vs, hl, i, h1, h2 with | [_], _, 0, h1, h2 => by cases h1; cases h2; rfl), by decide⟩
theorem fm_BadTag : PySem.Er.IForm ["tag"] (defArgs s_BadTag_init) (defBody s_BadTag_init) (defScope s_BadTag_init) :=
  PySem.Er.IForm.one _ _ _ _ _ _ _ _ _ _ _ _ _ (fun _ _ _ _ _ => ⟨_, rfl⟩) (fun _ _ _ _ _ => rfl) ⟨fun _ _ _ _ _ _ _ _ _ vs hl => match vs, hl with | [_], _ => rfl, ⟨_, rfl, rfl⟩, rfl, rfl, rfl, (by
      intro f hf
      simp only [List.mem_cons, List.not_mem_nil, or_false] at hf
      rcases hf with rfl <;> exact ⟨rfl, by decide⟩), fun x vs hl => match vs, hl with | [_], _ => rfl, (fun x vs i f v hl h1 h2 => match vs, hl, i, h1, h2 with | [_], _, 0, h1, h2 => by cases h1; cases h2; rfl), by decide⟩
theorem fm_NoField : PySem.Er.IForm ["kind", "field"] (defArgs s_NoField_init) (defBody s_NoField_init) (defScope s_NoField_init) :=
  PySem.Er.IForm.two _ _ _ _ _ _ _ _ _ _ _ _ _ _ _ _ _ _ (fun _ _ _ _ _ => ⟨_, rfl⟩) (fun _ _ _ _ _ => rfl) (fun _ _ _ _ _ => rfl) ⟨fun _ _ _ _ _ _ _ _ _ vs hl => match vs, hl with | [_, _], _ => rfl, ⟨_, rfl, rfl⟩, rfl, rfl, rfl, (by
      intro f hf
      simp only [List.mem_cons, List.not_mem_nil, or_false] at hf
      rcases hf with rfl | rfl <;> exact ⟨rfl, by decide⟩), fun x vs hl => match vs, hl with | [_, _], _ => rfl, (fun x vs i f v hl h1 h2 => match vs, hl, i, h1, h2 with | [_, _], _, 0, h1, h2 => by cases h1; cases h2; rfl | [_, _], _, 1, h1, h2 => by cases h1; cases h2; rfl), by decide⟩
theorem fm_BadValue : PySem.Er.IForm ["field"] (defArgs s_BadValue_init) (defBody s_BadValue_init) (defScope s_BadValue_init) :=
  PySem.Er.IForm.one _ _ _ _ _ _ _ _ _ _ _ _ _ (fun _ _ _ _ _ => ⟨_, rfl⟩) (fun _ _ _ _ _ => rfl) ⟨fun _ _ _ _ _ _ _ _ _ vs hl => match vs, hl with | [_], _ => rfl, ⟨_, rfl, rfl⟩, rfl, rfl, rfl, (by
      intro f hf
      simp only [List.mem_cons, List.not_mem_nil, or_false] at hf
      rcases hf with rfl <;> exact ⟨rfl, by decide⟩), fun x vs hl => match vs, hl with | [_], _ => rfl, (fun x vs i f v hl h1 h2 => match vs, hl, i, h1, h2 with | [_], _, 0, h1, h2 => by cases h1; cases h2; rfl), by decide⟩
theorem fm_NoThing : PySem.Er.IForm ["thing"] (defArgs s_NoThing_init) (defBody s_NoThing_init) (defScope s_NoThing_init) :=
  PySem.Er.IForm.one _ _ _ _ _ _ _ _ _ _ _ _ _ (fun _ _ _ _ _ => ⟨_, rfl⟩) (fun _ _ _ _ _ => rfl) ⟨fun _ _ _ _ _ _ _ _ _ vs hl => match vs, hl with | [_], _ => rfl, ⟨_, rfl, rfl⟩, rfl, rfl, rfl, (by
      intro f hf
      simp only [List.mem_cons, List.not_mem_nil, or_false] at hf
      rcases hf with rfl <;> exact ⟨rfl, by decide⟩), fun x vs hl => match vs, hl with | [_], _ => rfl, (fun x vs i f v hl h1 h2 => match vs, hl, i, h1, h2 with | [_], _, 0, h1, h2 => by cases h1; cases h2; rfl), by decide⟩
theorem fm_TooMany : PySem.Er.IForm ["what"] (defArgs s_TooMany_init) (defBody s_TooMany_init) (defScope s_TooMany_init) :=
  PySem.Er.IForm.one _ _ _ _ _ _ _ _ _ _ _ _ _ (fun _ _ _ _ _ => ⟨_, rfl⟩) (fun _ _ _ _ _ => rfl) ⟨fun _ _ _ _ _ _ _ _ _ vs hl => match vs, hl with | [_], _ => rfl, ⟨_, rfl, rfl⟩, rfl, rfl, rfl, (by
      intro f hf
      simp only [List.mem_cons, List.not_mem_nil, or_false] at hf
      rcases hf with rfl <;> exact ⟨rfl, by decide⟩), fun x vs hl => match vs, hl with | [_], _ => rfl, (fun x vs i f v hl h1 h2 => match vs, hl, i, h1, h2 with | [_], _, 0, h1, h2 => by cases h1; cases h2; rfl), by decide⟩
theorem all_mk {l : PySem.W.OpenLaw} {w : World} {K : PySem.W.Frag} {h : Heap} {mg : Str → Option Value} {fa : Addr} (X : K.In h) (G : h.Ns mainGlobals mg) (hfa : mg "law" = some (.ref fa))
    {A_MODES : Addr} {td_MODES : Option Addr} {ti_MODES : Array Value} {tn_MODES : Nat} {ts_MODES : Array (Option Value)} {A_RESERVED : Addr} {td_RESERVED : Option Addr} {ti_RESERVED : Array Value} {tn_RESERVED : Nat} {ts_RESERVED : Array (Option Value)} {u_CAPITALS : Value} {u_LETTERS : Value} {u_MOST_BASES : Value} {C_BadSchema f_BadSchema_init cda_BadSchema_init cc_BadSchema_init : Addr} {oc_BadSchema_init ct_BadSchema_init ccl_BadSchema_init ccc_BadSchema_init dc_BadSchema_init pm_BadSchema_init : Value} {od_BadSchema_init an_BadSchema_init cdd_BadSchema_init cld_BadSchema_init : Option Addr} {osl_BadSchema_init ccs_BadSchema_init csl_BadSchema_init : Array (Option Value)} {vs_BadSchema_init : Array Value} {file_BadSchema_init : Str} {tf_BadSchema_init : Tok} {C_NoKind f_NoKind_init cda_NoKind_init cc_NoKind_init : Addr} {oc_NoKind_init ct_NoKind_init ccl_NoKind_init ccc_NoKind_init dc_NoKind_init pm_NoKind_init : Value} {od_NoKind_init an_NoKind_init cdd_NoKind_init cld_NoKind_init : Option Addr} {osl_NoKind_init ccs_NoKind_init csl_NoKind_init : Array (Option Value)} {vs_NoKind_init : Array Value} {file_NoKind_init : Str} {tf_NoKind_init : Tok} {C_BadTag f_BadTag_init cda_BadTag_init cc_BadTag_init : Addr} {oc_BadTag_init ct_BadTag_init ccl_BadTag_init ccc_BadTag_init dc_BadTag_init pm_BadTag_init : Value} {od_BadTag_init an_BadTag_init cdd_BadTag_init cld_BadTag_init : Option Addr} {osl_BadTag_init ccs_BadTag_init csl_BadTag_init : Array (Option Value)} {vs_BadTag_init : Array Value} {file_BadTag_init : Str} {tf_BadTag_init : Tok} {C_NoField f_NoField_init cda_NoField_init cc_NoField_init : Addr} {oc_NoField_init ct_NoField_init ccl_NoField_init ccc_NoField_init dc_NoField_init pm_NoField_init : Value} {od_NoField_init an_NoField_init cdd_NoField_init cld_NoField_init : Option Addr} {osl_NoField_init ccs_NoField_init csl_NoField_init : Array (Option Value)} {vs_NoField_init : Array Value} {file_NoField_init : Str} {tf_NoField_init : Tok} {C_BadValue f_BadValue_init cda_BadValue_init cc_BadValue_init : Addr} {oc_BadValue_init ct_BadValue_init ccl_BadValue_init ccc_BadValue_init dc_BadValue_init pm_BadValue_init : Value} {od_BadValue_init an_BadValue_init cdd_BadValue_init cld_BadValue_init : Option Addr} {osl_BadValue_init ccs_BadValue_init csl_BadValue_init : Array (Option Value)} {vs_BadValue_init : Array Value} {file_BadValue_init : Str} {tf_BadValue_init : Tok} {C_NoThing f_NoThing_init cda_NoThing_init cc_NoThing_init : Addr} {oc_NoThing_init ct_NoThing_init ccl_NoThing_init ccc_NoThing_init dc_NoThing_init pm_NoThing_init : Value} {od_NoThing_init an_NoThing_init cdd_NoThing_init cld_NoThing_init : Option Addr} {osl_NoThing_init ccs_NoThing_init csl_NoThing_init : Array (Option Value)} {vs_NoThing_init : Array Value} {file_NoThing_init : Str} {tf_NoThing_init : Tok} {C_TooMany f_TooMany_init cda_TooMany_init cc_TooMany_init : Addr} {oc_TooMany_init ct_TooMany_init ccl_TooMany_init ccc_TooMany_init dc_TooMany_init pm_TooMany_init : Value} {od_TooMany_init an_TooMany_init cdd_TooMany_init cld_TooMany_init : Option Addr} {osl_TooMany_init ccs_TooMany_init csl_TooMany_init : Array (Option Value)} {vs_TooMany_init : Array Value} {file_TooMany_init : Str} {tf_TooMany_init : Tok} {C_Kind : Addr} {C_Schema : Addr} {cu_Schema_MOST : Value} {cu_Schema_FIELDS : Value} {u_MOST_TAG : Value} {C_Graph : Addr} {cu_Graph_THINGS : Value} {cu_Graph_REFERENCES : Value} {od_Graph_size an_Graph_size : Option Addr} {sl_Graph_size : Array (Option Value)} {oc_Graph_size kV_Graph_size dc_Graph_size pm_Graph_size cd_Graph_size ct_Graph_size : Value} {f_Graph_size : Addr} {p_Graph_size : Addr} {rs_Graph_size : List Value} {od_Graph_root an_Graph_root : Option Addr} {sl_Graph_root : Array (Option Value)} {oc_Graph_root kV_Graph_root dc_Graph_root pm_Graph_root cd_Graph_root ct_Graph_root : Value} {f_Graph_root : Addr} {p_Graph_root : Addr} {rs_Graph_root : List Value} {od_Graph_add an_Graph_add : Option Addr} {sl_Graph_add : Array (Option Value)} {oc_Graph_add  dc_Graph_add pm_Graph_add cd_Graph_add ct_Graph_add : Value} {f_Graph_add : Addr} {kD_Graph_add : Addr} {ku0_Graph_add : Value} {od_is_letters an_is_letters : Option Addr} {sl_is_letters : Array (Option Value)} {oc_is_letters kV_is_letters dc_is_letters pm_is_letters cd_is_letters ct_is_letters : Value} {f_is_letters : Addr} {od_is_kind_name an_is_kind_name : Option Addr} {sl_is_kind_name : Array (Option Value)} {oc_is_kind_name kV_is_kind_name dc_is_kind_name pm_is_kind_name cd_is_kind_name ct_is_kind_name : Value} {f_is_kind_name : Addr} {od_is_field_name an_is_field_name : Option Addr} {sl_is_field_name : Array (Option Value)} {oc_is_field_name kV_is_field_name dc_is_field_name pm_is_field_name cd_is_field_name ct_is_field_name : Value} {f_is_field_name : Addr} {od_is_mode an_is_mode : Option Addr} {sl_is_mode : Array (Option Value)} {oc_is_mode kV_is_mode dc_is_mode pm_is_mode cd_is_mode ct_is_mode : Value} {f_is_mode : Addr} {od_is_field an_is_field : Option Addr} {sl_is_field : Array (Option Value)} {oc_is_field kV_is_field dc_is_field pm_is_field cd_is_field ct_is_field : Value} {f_is_field : Addr} {od_is_bases an_is_bases : Option Addr} {sl_is_bases : Array (Option Value)} {oc_is_bases kV_is_bases dc_is_bases pm_is_bases cd_is_bases ct_is_bases : Value} {f_is_bases : Addr} {od_Kind_init an_Kind_init : Option Addr} {sl_Kind_init : Array (Option Value)} {oc_Kind_init kV_Kind_init dc_Kind_init pm_Kind_init cd_Kind_init ct_Kind_init : Value} {f_Kind_init : Addr} {od_make_kind an_make_kind : Option Addr} {sl_make_kind : Array (Option Value)} {oc_make_kind kV_make_kind dc_make_kind pm_make_kind cd_make_kind ct_make_kind : Value} {f_make_kind : Addr} {od_Schema_init an_Schema_init : Option Addr} {sl_Schema_init : Array (Option Value)} {oc_Schema_init kV_Schema_init dc_Schema_init pm_Schema_init cd_Schema_init ct_Schema_init : Value} {f_Schema_init : Addr} {od_Schema_getitem an_Schema_getitem : Option Addr} {sl_Schema_getitem : Array (Option Value)} {oc_Schema_getitem kV_Schema_getitem dc_Schema_getitem pm_Schema_getitem cd_Schema_getitem ct_Schema_getitem : Value} {f_Schema_getitem : Addr} {od_is_integer an_is_integer : Option Addr} {sl_is_integer : Array (Option Value)} {oc_is_integer kV_is_integer dc_is_integer pm_is_integer cd_is_integer ct_is_integer : Value} {f_is_integer : Addr} {od_Schema_is_under an_Schema_is_under : Option Addr} {sl_Schema_is_under : Array (Option Value)} {oc_Schema_is_under kV_Schema_is_under dc_Schema_is_under pm_Schema_is_under cd_Schema_is_under ct_Schema_is_under : Value} {f_Schema_is_under : Addr} {od_is_concrete an_is_concrete : Option Addr} {sl_is_concrete : Array (Option Value)} {oc_is_concrete kV_is_concrete dc_is_concrete pm_is_concrete cd_is_concrete ct_is_concrete : Value} {f_is_concrete : Addr} {od_is_tag an_is_tag : Option Addr} {sl_is_tag : Array (Option Value)} {oc_is_tag kV_is_tag dc_is_tag pm_is_tag cd_is_tag ct_is_tag : Value} {f_is_tag : Addr} {od_is_member an_is_member : Option Addr} {sl_is_member : Array (Option Value)} {oc_is_member kV_is_member dc_is_member pm_is_member cd_is_member ct_is_member : Value} {f_is_member : Addr} {od_is_value an_is_value : Option Addr} {sl_is_value : Array (Option Value)} {oc_is_value kV_is_value dc_is_value pm_is_value cd_is_value ct_is_value : Value} {f_is_value : Addr} {od_kept_value an_kept_value : Option Addr} {sl_kept_value : Array (Option Value)} {oc_kept_value kV_kept_value dc_kept_value pm_kept_value cd_kept_value ct_kept_value : Value} {f_kept_value : Addr} {od_empty_value an_empty_value : Option Addr} {sl_empty_value : Array (Option Value)} {oc_empty_value kV_empty_value dc_empty_value pm_empty_value cd_empty_value ct_empty_value : Value} {f_empty_value : Addr} {od_numbers_in an_numbers_in : Option Addr} {sl_numbers_in : Array (Option Value)} {oc_numbers_in kV_numbers_in dc_numbers_in pm_numbers_in cd_numbers_in ct_numbers_in : Value} {f_numbers_in : Addr} {od_Graph_init an_Graph_init : Option Addr} {sl_Graph_init : Array (Option Value)} {oc_Graph_init kV_Graph_init dc_Graph_init pm_Graph_init cd_Graph_init ct_Graph_init : Value} {f_Graph_init : Addr} {od_Graph_append_thing an_Graph_append_thing : Option Addr} {sl_Graph_append_thing : Array (Option Value)} {oc_Graph_append_thing kV_Graph_append_thing dc_Graph_append_thing pm_Graph_append_thing cd_Graph_append_thing ct_Graph_append_thing : Value} {f_Graph_append_thing : Addr} {od_Graph_check_thing an_Graph_check_thing : Option Addr} {sl_Graph_check_thing : Array (Option Value)} {oc_Graph_check_thing kV_Graph_check_thing dc_Graph_check_thing pm_Graph_check_thing cd_Graph_check_thing ct_Graph_check_thing : Value} {f_Graph_check_thing : Addr} {od_Graph_len an_Graph_len : Option Addr} {sl_Graph_len : Array (Option Value)} {oc_Graph_len kV_Graph_len dc_Graph_len pm_Graph_len cd_Graph_len ct_Graph_len : Value} {f_Graph_len : Addr} {od_Graph_row an_Graph_row : Option Addr} {sl_Graph_row : Array (Option Value)} {oc_Graph_row kV_Graph_row dc_Graph_row pm_Graph_row cd_Graph_row ct_Graph_row : Value} {f_Graph_row : Addr} {od_Graph_all_rows an_Graph_all_rows : Option Addr} {sl_Graph_all_rows : Array (Option Value)} {oc_Graph_all_rows kV_Graph_all_rows dc_Graph_all_rows pm_Graph_all_rows cd_Graph_all_rows ct_Graph_all_rows : Value} {f_Graph_all_rows : Addr} {od_Schema_eq an_Schema_eq : Option Addr} {sl_Schema_eq : Array (Option Value)} {oc_Schema_eq kV_Schema_eq dc_Schema_eq pm_Schema_eq cd_Schema_eq ct_Schema_eq : Value} {f_Schema_eq : Addr} {od_l_pen an_l_pen : Option Addr} {sl_l_pen : Array (Option Value)} {oc_l_pen kV_l_pen dc_l_pen pm_l_pen cd_l_pen ct_l_pen : Value} {f_l_pen : Addr} {od_l_take an_l_take : Option Addr} {sl_l_take : Array (Option Value)} {oc_l_take kV_l_take dc_l_take pm_l_take cd_l_take ct_l_take : Value} {f_l_take : Addr} {od_l_bit an_l_bit : Option Addr} {sl_l_bit : Array (Option Value)} {oc_l_bit kV_l_bit dc_l_bit pm_l_bit cd_l_bit ct_l_bit : Value} {f_l_bit : Addr} {od_l_letters an_l_letters : Option Addr} {sl_l_letters : Array (Option Value)} {oc_l_letters kV_l_letters dc_l_letters pm_l_letters cd_l_letters ct_l_letters : Value} {f_l_letters : Addr} {od_l_names an_l_names : Option Addr} {sl_l_names : Array (Option Value)} {oc_l_names kV_l_names dc_l_names pm_l_names cd_l_names ct_l_names : Value} {f_l_names : Addr} {od_l_kind_names an_l_kind_names : Option Addr} {sl_l_kind_names : Array (Option Value)} {oc_l_kind_names kV_l_kind_names dc_l_kind_names pm_l_kind_names cd_l_kind_names ct_l_kind_names : Value} {f_l_kind_names : Addr} {od_l_line an_l_line : Option Addr} {sl_l_line : Array (Option Value)} {oc_l_line kV_l_line dc_l_line pm_l_line cd_l_line ct_l_line : Value} {f_l_line : Addr} {od_l_fields an_l_fields : Option Addr} {sl_l_fields : Array (Option Value)} {oc_l_fields kV_l_fields dc_l_fields pm_l_fields cd_l_fields ct_l_fields : Value} {f_l_fields : Addr} {od_l_concrete an_l_concrete : Option Addr} {sl_l_concrete : Array (Option Value)} {oc_l_concrete kV_l_concrete dc_l_concrete pm_l_concrete cd_l_concrete ct_l_concrete : Value} {f_l_concrete : Addr} {od_l_under an_l_under : Option Addr} {sl_l_under : Array (Option Value)} {oc_l_under kV_l_under dc_l_under pm_l_under cd_l_under ct_l_under : Value} {f_l_under : Addr} {od_l_tag an_l_tag : Option Addr} {sl_l_tag : Array (Option Value)} {oc_l_tag kV_l_tag dc_l_tag pm_l_tag cd_l_tag ct_l_tag : Value} {f_l_tag : Addr} {od_l_targets an_l_targets : Option Addr} {sl_l_targets : Array (Option Value)} {oc_l_targets kV_l_targets dc_l_targets pm_l_targets cd_l_targets ct_l_targets : Value} {f_l_targets : Addr} {od_l_value an_l_value : Option Addr} {sl_l_value : Array (Option Value)} {oc_l_value kV_l_value dc_l_value pm_l_value cd_l_value ct_l_value : Value} {f_l_value : Addr} {od_l_copied an_l_copied : Option Addr} {sl_l_copied : Array (Option Value)} {oc_l_copied kV_l_copied dc_l_copied pm_l_copied cd_l_copied ct_l_copied : Value} {f_l_copied : Addr} {od_l_numbers an_l_numbers : Option Addr} {sl_l_numbers : Array (Option Value)} {oc_l_numbers kV_l_numbers dc_l_numbers pm_l_numbers cd_l_numbers ct_l_numbers : Value} {f_l_numbers : Addr} {od_l_held an_l_held : Option Addr} {sl_l_held : Array (Option Value)} {oc_l_held kV_l_held dc_l_held pm_l_held cd_l_held ct_l_held : Value} {f_l_held : Addr} {od_l_size an_l_size : Option Addr} {sl_l_size : Array (Option Value)} {oc_l_size kV_l_size dc_l_size pm_l_size cd_l_size ct_l_size : Value} {f_l_size : Addr} {od_l_is_integer an_l_is_integer : Option Addr} {sl_l_is_integer : Array (Option Value)} {oc_l_is_integer kV_l_is_integer dc_l_is_integer pm_l_is_integer cd_l_is_integer ct_l_is_integer : Value} {f_l_is_integer : Addr} {od_l_shows an_l_shows : Option Addr} {sl_l_shows : Array (Option Value)} {oc_l_shows kV_l_shows dc_l_shows pm_l_shows cd_l_shows ct_l_shows : Value} {f_l_shows : Addr} {od_l_empty an_l_empty : Option Addr} {sl_l_empty : Array (Option Value)} {oc_l_empty kV_l_empty dc_l_empty pm_l_empty cd_l_empty ct_l_empty : Value} {f_l_empty : Addr} {od_l_family an_l_family : Option Addr} {sl_l_family : Array (Option Value)} {oc_l_family kV_l_family dc_l_family pm_l_family cd_l_family ct_l_family : Value} {f_l_family : Addr} {od_l_added an_l_added : Option Addr} {sl_l_added : Array (Option Value)} {oc_l_added kV_l_added dc_l_added pm_l_added cd_l_added ct_l_added : Value} {f_l_added : Addr} {od_l_one_more an_l_one_more : Option Addr} {sl_l_one_more : Array (Option Value)} {oc_l_one_more kV_l_one_more dc_l_one_more pm_l_one_more cd_l_one_more ct_l_one_more : Value} {f_l_one_more : Addr} {od_law an_law : Option Addr} {sl_law : Array (Option Value)} {oc_law kV_law dc_law pm_law cd_law ct_law : Value} {f_law : Addr}
    (z_len : PySem.W.nsIn K mainGlobals "len" = some none)
    (z_int : PySem.W.nsIn K mainGlobals "int" = some none)
    (z_list : PySem.W.nsIn K mainGlobals "list" = some none)
    (z_range : PySem.W.nsIn K mainGlobals "range" = some none)
    (z_isinstance : PySem.W.nsIn K mainGlobals "isinstance" = some none)
    (z_str : PySem.W.nsIn K mainGlobals "str" = some none)
    (z_tuple : PySem.W.nsIn K mainGlobals "tuple" = some none)
    (z_set : PySem.W.nsIn K mainGlobals "set" = some none)
    (z_enumerate : PySem.W.nsIn K mainGlobals "enumerate" = some none)
    (z_reversed : PySem.W.nsIn K mainGlobals "reversed" = some none)
    (z_all : PySem.W.nsIn K mainGlobals "all" = some none)
    (z_repr : PySem.W.nsIn K mainGlobals "repr" = some none)
    (z_bool : PySem.W.nsIn K mainGlobals "bool" = some none)
    (aG_MODES : PySem.W.nsIn K mainGlobals "MODES" = some (some (.ref A_MODES)))
    (lt_MODES : K.lookup A_MODES = some ⟨.type "tuple", td_MODES, .seq ti_MODES tn_MODES, ts_MODES⟩)
    (ls_MODES : decide (ti_MODES.size ≤ 16777216) = true)
    (lv_MODES : Vals (MODESl.map V.str) ti_MODES.toList)
    (aG_RESERVED : PySem.W.nsIn K mainGlobals "RESERVED" = some (some (.ref A_RESERVED)))
    (lt_RESERVED : K.lookup A_RESERVED = some ⟨.type "tuple", td_RESERVED, .seq ti_RESERVED tn_RESERVED, ts_RESERVED⟩)
    (ls_RESERVED : decide (ti_RESERVED.size ≤ 16777216) = true)
    (lv_RESERVED : Vals (RESl.map V.str) ti_RESERVED.toList)
    (aG_CAPITALS : PySem.W.nsIn K mainGlobals "CAPITALS" = some (some u_CAPITALS))
    (rG_CAPITALS : RelV (.str CAPS) u_CAPITALS)
    (aG_LETTERS : PySem.W.nsIn K mainGlobals "LETTERS" = some (some u_LETTERS))
    (rG_LETTERS : RelV (.str LOWS) u_LETTERS)
    (aG_MOST_BASES : PySem.W.nsIn K mainGlobals "MOST_BASES" = some (some u_MOST_BASES))
    (rG_MOST_BASES : RelV (.int 3) u_MOST_BASES)
    (aC_BadSchema : PySem.W.nsIn K mainGlobals "BadSchema" = some (some (.ref C_BadSchema)))
    (init_BadSchema : PySem.W.findIn K (.ref C_BadSchema) "__init__" = some (some (.ref f_BadSchema_init)))
    (ty_BadSchema : PySem.W.typeIn K (.ref f_BadSchema_init) = some (.type "function"))
    (lk_BadSchema : K.lookup f_BadSchema_init = some ⟨oc_BadSchema_init, od_BadSchema_init, .func (PySem.W.ksFn "__init__" "BadSchema.__init__" (defArgs s_BadSchema_init) (defBody s_BadSchema_init) (defScope s_BadSchema_init) .none .none dc_BadSchema_init pm_BadSchema_init an_BadSchema_init (.ref cda_BadSchema_init) ct_BadSchema_init cc_BadSchema_init), osl_BadSchema_init⟩)
    (hc_BadSchema : PySem.W.codeIn K (.ref cda_BadSchema_init) "BadSchema.__init__" = true)
    (code_BadSchema : K.lookup cda_BadSchema_init = some ⟨ccl_BadSchema_init, cdd_BadSchema_init, .fields vs_BadSchema_init, ccs_BadSchema_init⟩)
    (hv_BadSchema : vs_BadSchema_init[2]? = some (.str file_BadSchema_init tf_BadSchema_init))
    (hf_BadSchema : ((l.prog.main.file : Str) == file_BadSchema_init) = true)
    (cell_BadSchema : K.lookup cc_BadSchema_init = some ⟨ccc_BadSchema_init, cld_BadSchema_init, .cell (some (.ref C_BadSchema)), csl_BadSchema_init⟩)
    (ic_BadSchema : PySem.W.isClsIn K C_BadSchema = true)
    (sub_BadSchema : PySem.W.mroIn K C_BadSchema (.ref C_BadSchema) = some true)
    (z_super : PySem.W.nsIn K mainGlobals "super" = some none)
    (z_tp : PySem.W.nsIn K cStatics "thirdparty.any" = some none)
    (z_top : (l.prog.main.scope.names.lookup ("super" : Str)).isSome = false)
    (sup_BadSchema : PySem.W.ks_superIn K C_BadSchema C_BadSchema "__init__" = some (some (.builtin "ValueError.__init__")))
    (base_BadSchema : PySem.W.subIn K (.ref C_BadSchema) (.type "ValueError") = some true)
    (exc_BadSchema : PySem.W.excInitIn K C_BadSchema [.type "ValueError", .type "Exception", .type "BaseException", .type "object"] "ValueError.__new__" = true)
    (sa_BadSchema : PySem.W.findIn K (.ref C_BadSchema) "__setattr__" = some (some (.builtin "object.__setattr__")))
    (ov_BadSchema : PySem.W.excOver K C_BadSchema [.type "ValueError", .type "Exception", .type "BaseException", .type "object"] = true)
    (hd_BadSchema : PySem.W.hasDictIn K C_BadSchema = true)
    (no_BadSchema_at : PySem.W.findIn K (.ref C_BadSchema) "at" = some none)
    (exC_BadSchema : PySem.W.subIn K (.ref C_BadSchema) (.type "BaseException") = some true)
    (tyC_BadSchema : PySem.W.typeIn K (.ref C_BadSchema) = some (.type "type"))
    (kC_BadSchema : PySem.W.keepIn K (.ref C_BadSchema) = true)
    (su_BadSchema : PySem.W.subIn K (.ref C_BadSchema) (.ref C_BadSchema) = some true)
    (ga_BadSchema : PySem.W.findIn K (.ref C_BadSchema) "__getattribute__" = some (some (.builtin "BaseException.__getattribute__")))
    (gg_BadSchema : PySem.W.findIn K (.ref C_BadSchema) "__getattr__" = some none)
    (aC_NoKind : PySem.W.nsIn K mainGlobals "NoKind" = some (some (.ref C_NoKind)))
    (init_NoKind : PySem.W.findIn K (.ref C_NoKind) "__init__" = some (some (.ref f_NoKind_init)))
    (ty_NoKind : PySem.W.typeIn K (.ref f_NoKind_init) = some (.type "function"))
    (lk_NoKind : K.lookup f_NoKind_init = some ⟨oc_NoKind_init, od_NoKind_init, .func (PySem.W.ksFn "__init__" "NoKind.__init__" (defArgs s_NoKind_init) (defBody s_NoKind_init) (defScope s_NoKind_init) .none .none dc_NoKind_init pm_NoKind_init an_NoKind_init (.ref cda_NoKind_init) ct_NoKind_init cc_NoKind_init), osl_NoKind_init⟩)
    (hc_NoKind : PySem.W.codeIn K (.ref cda_NoKind_init) "NoKind.__init__" = true)
    (code_NoKind : K.lookup cda_NoKind_init = some ⟨ccl_NoKind_init, cdd_NoKind_init, .fields vs_NoKind_init, ccs_NoKind_init⟩)
    (hv_NoKind : vs_NoKind_init[2]? = some (.str file_NoKind_init tf_NoKind_init))
    (hf_NoKind : ((l.prog.main.file : Str) == file_NoKind_init) = true)
    (cell_NoKind : K.lookup cc_NoKind_init = some ⟨ccc_NoKind_init, cld_NoKind_init, .cell (some (.ref C_NoKind)), csl_NoKind_init⟩)
    (ic_NoKind : PySem.W.isClsIn K C_NoKind = true)
    (sub_NoKind : PySem.W.mroIn K C_NoKind (.ref C_NoKind) = some true)
    (sup_NoKind : PySem.W.ks_superIn K C_NoKind C_NoKind "__init__" = some (some (.builtin "ValueError.__init__")))
    (base_NoKind : PySem.W.subIn K (.ref C_NoKind) (.type "ValueError") = some true)
    (exc_NoKind : PySem.W.excInitIn K C_NoKind [.type "ValueError", .type "Exception", .type "BaseException", .type "object"] "ValueError.__new__" = true)
    (sa_NoKind : PySem.W.findIn K (.ref C_NoKind) "__setattr__" = some (some (.builtin "object.__setattr__")))
    (ov_NoKind : PySem.W.excOver K C_NoKind [.type "ValueError", .type "Exception", .type "BaseException", .type "object"] = true)
    (hd_NoKind : PySem.W.hasDictIn K C_NoKind = true)
    (no_NoKind_kind : PySem.W.findIn K (.ref C_NoKind) "kind" = some none)
    (exC_NoKind : PySem.W.subIn K (.ref C_NoKind) (.type "BaseException") = some true)
    (tyC_NoKind : PySem.W.typeIn K (.ref C_NoKind) = some (.type "type"))
    (kC_NoKind : PySem.W.keepIn K (.ref C_NoKind) = true)
    (su_NoKind : PySem.W.subIn K (.ref C_NoKind) (.ref C_NoKind) = some true)
    (ga_NoKind : PySem.W.findIn K (.ref C_NoKind) "__getattribute__" = some (some (.builtin "BaseException.__getattribute__")))
    (gg_NoKind : PySem.W.findIn K (.ref C_NoKind) "__getattr__" = some none)
    (aC_BadTag : PySem.W.nsIn K mainGlobals "BadTag" = some (some (.ref C_BadTag)))
    (init_BadTag : PySem.W.findIn K (.ref C_BadTag) "__init__" = some (some (.ref f_BadTag_init)))
    (ty_BadTag : PySem.W.typeIn K (.ref f_BadTag_init) = some (.type "function"))
    (lk_BadTag : K.lookup f_BadTag_init = some ⟨oc_BadTag_init, od_BadTag_init, .func (PySem.W.ksFn "__init__" "BadTag.__init__" (defArgs s_BadTag_init) (defBody s_BadTag_init) (defScope s_BadTag_init) .none .none dc_BadTag_init pm_BadTag_init an_BadTag_init (.ref cda_BadTag_init) ct_BadTag_init cc_BadTag_init), osl_BadTag_init⟩)
    (hc_BadTag : PySem.W.codeIn K (.ref cda_BadTag_init) "BadTag.__init__" = true)
    (code_BadTag : K.lookup cda_BadTag_init = some ⟨ccl_BadTag_init, cdd_BadTag_init, .fields vs_BadTag_init, ccs_BadTag_init⟩)
    (hv_BadTag : vs_BadTag_init[2]? = some (.str file_BadTag_init tf_BadTag_init))
    (hf_BadTag : ((l.prog.main.file : Str) == file_BadTag_init) = true)
    (cell_BadTag : K.lookup cc_BadTag_init = some ⟨ccc_BadTag_init, cld_BadTag_init, .cell (some (.ref C_BadTag)), csl_BadTag_init⟩)
    (ic_BadTag : PySem.W.isClsIn K C_BadTag = true)
    (sub_BadTag : PySem.W.mroIn K C_BadTag (.ref C_BadTag) = some true)
    (sup_BadTag : PySem.W.ks_superIn K C_BadTag C_BadTag "__init__" = some (some (.builtin "ValueError.__init__")))
    (base_BadTag : PySem.W.subIn K (.ref C_BadTag) (.type "ValueError") = some true)
    (exc_BadTag : PySem.W.excInitIn K C_BadTag [.type "ValueError", .type "Exception", .type "BaseException", .type "object"] "ValueError.__new__" = true)
    (sa_BadTag : PySem.W.findIn K (.ref C_BadTag) "__setattr__" = some (some (.builtin "object.__setattr__")))
    (ov_BadTag : PySem.W.excOver K C_BadTag [.type "ValueError", .type "Exception", .type "BaseException", .type "object"] = true)
    (hd_BadTag : PySem.W.hasDictIn K C_BadTag = true)
    (no_BadTag_tag : PySem.W.findIn K (.ref C_BadTag) "tag" = some none)
    (exC_BadTag : PySem.W.subIn K (.ref C_BadTag) (.type "BaseException") = some true)
    (tyC_BadTag : PySem.W.typeIn K (.ref C_BadTag) = some (.type "type"))
    (kC_BadTag : PySem.W.keepIn K (.ref C_BadTag) = true)
    (su_BadTag : PySem.W.subIn K (.ref C_BadTag) (.ref C_BadTag) = some true)
    (ga_BadTag : PySem.W.findIn K (.ref C_BadTag) "__getattribute__" = some (some (.builtin "BaseException.__getattribute__")))
    (gg_BadTag : PySem.W.findIn K (.ref C_BadTag) "__getattr__" = some none)
    (aC_NoField : PySem.W.nsIn K mainGlobals "NoField" = some (some (.ref C_NoField)))
    (init_NoField : PySem.W.findIn K (.ref C_NoField) "__init__" = some (some (.ref f_NoField_init)))
    (ty_NoField : PySem.W.typeIn K (.ref f_NoField_init) = some (.type "function"))
    (lk_NoField : K.lookup f_NoField_init = some ⟨oc_NoField_init, od_NoField_init, .func (PySem.W.ksFn "__init__" "NoField.__init__" (defArgs s_NoField_init) (defBody s_NoField_init) (defScope s_NoField_init) .none .none dc_NoField_init pm_NoField_init an_NoField_init (.ref cda_NoField_init) ct_NoField_init cc_NoField_init), osl_NoField_init⟩)
    (hc_NoField : PySem.W.codeIn K (.ref cda_NoField_init) "NoField.__init__" = true)
    (code_NoField : K.lookup cda_NoField_init = some ⟨ccl_NoField_init, cdd_NoField_init, .fields vs_NoField_init, ccs_NoField_init⟩)
    (hv_NoField : vs_NoField_init[2]? = some (.str file_NoField_init tf_NoField_init))
    (hf_NoField : ((l.prog.main.file : Str) == file_NoField_init) = true)
    (cell_NoField : K.lookup cc_NoField_init = some ⟨ccc_NoField_init, cld_NoField_init, .cell (some (.ref C_NoField)), csl_NoField_init⟩)
    (ic_NoField : PySem.W.isClsIn K C_NoField = true)
    (sub_NoField : PySem.W.mroIn K C_NoField (.ref C_NoField) = some true)
    (sup_NoField : PySem.W.ks_superIn K C_NoField C_NoField "__init__" = some (some (.builtin "ValueError.__init__")))
    (base_NoField : PySem.W.subIn K (.ref C_NoField) (.type "ValueError") = some true)
    (exc_NoField : PySem.W.excInitIn K C_NoField [.type "ValueError", .type "Exception", .type "BaseException", .type "object"] "ValueError.__new__" = true)
    (sa_NoField : PySem.W.findIn K (.ref C_NoField) "__setattr__" = some (some (.builtin "object.__setattr__")))
    (ov_NoField : PySem.W.excOver K C_NoField [.type "ValueError", .type "Exception", .type "BaseException", .type "object"] = true)
    (hd_NoField : PySem.W.hasDictIn K C_NoField = true)
    (no_NoField_kind : PySem.W.findIn K (.ref C_NoField) "kind" = some none)
    (no_NoField_field : PySem.W.findIn K (.ref C_NoField) "field" = some none)
    (exC_NoField : PySem.W.subIn K (.ref C_NoField) (.type "BaseException") = some true)
    (tyC_NoField : PySem.W.typeIn K (.ref C_NoField) = some (.type "type"))
    (kC_NoField : PySem.W.keepIn K (.ref C_NoField) = true)
    (su_NoField : PySem.W.subIn K (.ref C_NoField) (.ref C_NoField) = some true)
    (ga_NoField : PySem.W.findIn K (.ref C_NoField) "__getattribute__" = some (some (.builtin "BaseException.__getattribute__")))
    (gg_NoField : PySem.W.findIn K (.ref C_NoField) "__getattr__" = some none)
    (aC_BadValue : PySem.W.nsIn K mainGlobals "BadValue" = some (some (.ref C_BadValue)))
    (init_BadValue : PySem.W.findIn K (.ref C_BadValue) "__init__" = some (some (.ref f_BadValue_init)))
    (ty_BadValue : PySem.W.typeIn K (.ref f_BadValue_init) = some (.type "function"))
    (lk_BadValue : K.lookup f_BadValue_init = some ⟨oc_BadValue_init, od_BadValue_init, .func (PySem.W.ksFn "__init__" "BadValue.__init__" (defArgs s_BadValue_init) (defBody s_BadValue_init) (defScope s_BadValue_init) .none .none dc_BadValue_init pm_BadValue_init an_BadValue_init (.ref cda_BadValue_init) ct_BadValue_init cc_BadValue_init), osl_BadValue_init⟩)
    (hc_BadValue : PySem.W.codeIn K (.ref cda_BadValue_init) "BadValue.__init__" = true)
    (code_BadValue : K.lookup cda_BadValue_init = some ⟨ccl_BadValue_init, cdd_BadValue_init, .fields vs_BadValue_init, ccs_BadValue_init⟩)
    (hv_BadValue : vs_BadValue_init[2]? = some (.str file_BadValue_init tf_BadValue_init))
    (hf_BadValue : ((l.prog.main.file : Str) == file_BadValue_init) = true)
    (cell_BadValue : K.lookup cc_BadValue_init = some ⟨ccc_BadValue_init, cld_BadValue_init, .cell (some (.ref C_BadValue)), csl_BadValue_init⟩)
    (ic_BadValue : PySem.W.isClsIn K C_BadValue = true)
    (sub_BadValue : PySem.W.mroIn K C_BadValue (.ref C_BadValue) = some true)
    (sup_BadValue : PySem.W.ks_superIn K C_BadValue C_BadValue "__init__" = some (some (.builtin "ValueError.__init__")))
    (base_BadValue : PySem.W.subIn K (.ref C_BadValue) (.type "ValueError") = some true)
    (exc_BadValue : PySem.W.excInitIn K C_BadValue [.type "ValueError", .type "Exception", .type "BaseException", .type "object"] "ValueError.__new__" = true)
    (sa_BadValue : PySem.W.findIn K (.ref C_BadValue) "__setattr__" = some (some (.builtin "object.__setattr__")))
    (ov_BadValue : PySem.W.excOver K C_BadValue [.type "ValueError", .type "Exception", .type "BaseException", .type "object"] = true)
    (hd_BadValue : PySem.W.hasDictIn K C_BadValue = true)
    (no_BadValue_field : PySem.W.findIn K (.ref C_BadValue) "field" = some none)
    (exC_BadValue : PySem.W.subIn K (.ref C_BadValue) (.type "BaseException") = some true)
    (tyC_BadValue : PySem.W.typeIn K (.ref C_BadValue) = some (.type "type"))
    (kC_BadValue : PySem.W.keepIn K (.ref C_BadValue) = true)
    (su_BadValue : PySem.W.subIn K (.ref C_BadValue) (.ref C_BadValue) = some true)
    (ga_BadValue : PySem.W.findIn K (.ref C_BadValue) "__getattribute__" = some (some (.builtin "BaseException.__getattribute__")))
    (gg_BadValue : PySem.W.findIn K (.ref C_BadValue) "__getattr__" = some none)
    (aC_NoThing : PySem.W.nsIn K mainGlobals "NoThing" = some (some (.ref C_NoThing)))
    (init_NoThing : PySem.W.findIn K (.ref C_NoThing) "__init__" = some (some (.ref f_NoThing_init)))
    (ty_NoThing : PySem.W.typeIn K (.ref f_NoThing_init) = some (.type "function"))
    (lk_NoThing : K.lookup f_NoThing_init = some ⟨oc_NoThing_init, od_NoThing_init, .func (PySem.W.ksFn "__init__" "NoThing.__init__" (defArgs s_NoThing_init) (defBody s_NoThing_init) (defScope s_NoThing_init) .none .none dc_NoThing_init pm_NoThing_init an_NoThing_init (.ref cda_NoThing_init) ct_NoThing_init cc_NoThing_init), osl_NoThing_init⟩)
    (hc_NoThing : PySem.W.codeIn K (.ref cda_NoThing_init) "NoThing.__init__" = true)
    (code_NoThing : K.lookup cda_NoThing_init = some ⟨ccl_NoThing_init, cdd_NoThing_init, .fields vs_NoThing_init, ccs_NoThing_init⟩)
    (hv_NoThing : vs_NoThing_init[2]? = some (.str file_NoThing_init tf_NoThing_init))
    (hf_NoThing : ((l.prog.main.file : Str) == file_NoThing_init) = true)
    (cell_NoThing : K.lookup cc_NoThing_init = some ⟨ccc_NoThing_init, cld_NoThing_init, .cell (some (.ref C_NoThing)), csl_NoThing_init⟩)
    (ic_NoThing : PySem.W.isClsIn K C_NoThing = true)
    (sub_NoThing : PySem.W.mroIn K C_NoThing (.ref C_NoThing) = some true)
    (sup_NoThing : PySem.W.ks_superIn K C_NoThing C_NoThing "__init__" = some (some (.builtin "ValueError.__init__")))
    (base_NoThing : PySem.W.subIn K (.ref C_NoThing) (.type "ValueError") = some true)
    (exc_NoThing : PySem.W.excInitIn K C_NoThing [.type "ValueError", .type "Exception", .type "BaseException", .type "object"] "ValueError.__new__" = true)
    (sa_NoThing : PySem.W.findIn K (.ref C_NoThing) "__setattr__" = some (some (.builtin "object.__setattr__")))
    (ov_NoThing : PySem.W.excOver K C_NoThing [.type "ValueError", .type "Exception", .type "BaseException", .type "object"] = true)
    (hd_NoThing : PySem.W.hasDictIn K C_NoThing = true)
    (no_NoThing_thing : PySem.W.findIn K (.ref C_NoThing) "thing" = some none)
    (exC_NoThing : PySem.W.subIn K (.ref C_NoThing) (.type "BaseException") = some true)
    (tyC_NoThing : PySem.W.typeIn K (.ref C_NoThing) = some (.type "type"))
    (kC_NoThing : PySem.W.keepIn K (.ref C_NoThing) = true)
    (su_NoThing : PySem.W.subIn K (.ref C_NoThing) (.ref C_NoThing) = some true)
    (ga_NoThing : PySem.W.findIn K (.ref C_NoThing) "__getattribute__" = some (some (.builtin "BaseException.__getattribute__")))
    (gg_NoThing : PySem.W.findIn K (.ref C_NoThing) "__getattr__" = some none)
    (aC_TooMany : PySem.W.nsIn K mainGlobals "TooMany" = some (some (.ref C_TooMany)))
    (init_TooMany : PySem.W.findIn K (.ref C_TooMany) "__init__" = some (some (.ref f_TooMany_init)))
    (ty_TooMany : PySem.W.typeIn K (.ref f_TooMany_init) = some (.type "function"))
    (lk_TooMany : K.lookup f_TooMany_init = some ⟨oc_TooMany_init, od_TooMany_init, .func (PySem.W.ksFn "__init__" "TooMany.__init__" (defArgs s_TooMany_init) (defBody s_TooMany_init) (defScope s_TooMany_init) .none .none dc_TooMany_init pm_TooMany_init an_TooMany_init (.ref cda_TooMany_init) ct_TooMany_init cc_TooMany_init), osl_TooMany_init⟩)
    (hc_TooMany : PySem.W.codeIn K (.ref cda_TooMany_init) "TooMany.__init__" = true)
    (code_TooMany : K.lookup cda_TooMany_init = some ⟨ccl_TooMany_init, cdd_TooMany_init, .fields vs_TooMany_init, ccs_TooMany_init⟩)
    (hv_TooMany : vs_TooMany_init[2]? = some (.str file_TooMany_init tf_TooMany_init))
    (hf_TooMany : ((l.prog.main.file : Str) == file_TooMany_init) = true)
    (cell_TooMany : K.lookup cc_TooMany_init = some ⟨ccc_TooMany_init, cld_TooMany_init, .cell (some (.ref C_TooMany)), csl_TooMany_init⟩)
    (ic_TooMany : PySem.W.isClsIn K C_TooMany = true)
    (sub_TooMany : PySem.W.mroIn K C_TooMany (.ref C_TooMany) = some true)
    (sup_TooMany : PySem.W.ks_superIn K C_TooMany C_TooMany "__init__" = some (some (.builtin "ValueError.__init__")))
    (base_TooMany : PySem.W.subIn K (.ref C_TooMany) (.type "ValueError") = some true)
    (exc_TooMany : PySem.W.excInitIn K C_TooMany [.type "ValueError", .type "Exception", .type "BaseException", .type "object"] "ValueError.__new__" = true)
    (sa_TooMany : PySem.W.findIn K (.ref C_TooMany) "__setattr__" = some (some (.builtin "object.__setattr__")))
    (ov_TooMany : PySem.W.excOver K C_TooMany [.type "ValueError", .type "Exception", .type "BaseException", .type "object"] = true)
    (hd_TooMany : PySem.W.hasDictIn K C_TooMany = true)
    (no_TooMany_what : PySem.W.findIn K (.ref C_TooMany) "what" = some none)
    (exC_TooMany : PySem.W.subIn K (.ref C_TooMany) (.type "BaseException") = some true)
    (tyC_TooMany : PySem.W.typeIn K (.ref C_TooMany) = some (.type "type"))
    (kC_TooMany : PySem.W.keepIn K (.ref C_TooMany) = true)
    (su_TooMany : PySem.W.subIn K (.ref C_TooMany) (.ref C_TooMany) = some true)
    (ga_TooMany : PySem.W.findIn K (.ref C_TooMany) "__getattribute__" = some (some (.builtin "BaseException.__getattribute__")))
    (gg_TooMany : PySem.W.findIn K (.ref C_TooMany) "__getattr__" = some none)
    (aC_Kind : PySem.W.nsIn K mainGlobals "Kind" = some (some (.ref C_Kind)))
    (pg_Kind : PySem.W.plainGet K C_Kind Str.empty = true)
    (hd_Kind : PySem.W.hasDictIn K C_Kind = true)
    (po_Kind : PySem.W.plainOver K C_Kind = true)
    (sa_Kind : PySem.W.findIn K (.ref C_Kind) "__setattr__" = some (some (.builtin "object.__setattr__")))
    (ha_Kind : PySem.W.findIn K (.ref C_Kind) "__class__" = some (some (.builtin "object.__class__")))
    (hn_Kind : PySem.W.specialIn K (.builtin "object.__class__") "__get__" = some (some (.builtin "getset_descriptor.__get__")))
    (ht_Kind : PySem.W.takesIn K (.builtin "object.__class__") = some true)
    (hm_Kind : PySem.W.mroIn K C_Kind (.type "object") = some true)
    (k1_Kind : PySem.W.kitOne K (.ref C_Kind) (.ref C_Kind) = some true)
    (b1_Kind : PySem.W.kitOne K (.type "NoneType") (.ref C_Kind) = some false)
    (b2_Kind : PySem.W.kitOne K (.type "bool") (.ref C_Kind) = some false)
    (b3_Kind : PySem.W.kitOne K (.type "int") (.ref C_Kind) = some false)
    (b4_Kind : PySem.W.kitOne K (.type "str") (.ref C_Kind) = some false)
    (b5_Kind : PySem.W.kitOne K (.type "list") (.ref C_Kind) = some false)
    (b6_Kind : PySem.W.kitOne K (.type "tuple") (.ref C_Kind) = some false)
    (b7_Kind : PySem.W.kitOne K (.type "dict") (.ref C_Kind) = some false)
    (no_Kind_name : PySem.W.findIn K (.ref C_Kind) "name" = some none)
    (no_Kind_bases : PySem.W.findIn K (.ref C_Kind) "bases" = some none)
    (no_Kind_is_abstract : PySem.W.findIn K (.ref C_Kind) "is_abstract" = some none)
    (no_Kind_own : PySem.W.findIn K (.ref C_Kind) "own" = some none)
    (no_Kind_line : PySem.W.findIn K (.ref C_Kind) "line" = some none)
    (no_Kind_fields : PySem.W.findIn K (.ref C_Kind) "fields" = some none)
    (mk_Kind : PySem.W.makesIn K C_Kind = true)
    (kc_Kind : PySem.W.keepIn K (.ref C_Kind) = true)
    (aC_Schema : PySem.W.nsIn K mainGlobals "Schema" = some (some (.ref C_Schema)))
    (pg_Schema : PySem.W.plainGet K C_Schema Str.empty = true)
    (hd_Schema : PySem.W.hasDictIn K C_Schema = true)
    (po_Schema : PySem.W.plainOver K C_Schema = true)
    (sa_Schema : PySem.W.findIn K (.ref C_Schema) "__setattr__" = some (some (.builtin "object.__setattr__")))
    (ha_Schema : PySem.W.findIn K (.ref C_Schema) "__class__" = some (some (.builtin "object.__class__")))
    (hn_Schema : PySem.W.specialIn K (.builtin "object.__class__") "__get__" = some (some (.builtin "getset_descriptor.__get__")))
    (ht_Schema : PySem.W.takesIn K (.builtin "object.__class__") = some true)
    (hm_Schema : PySem.W.mroIn K C_Schema (.type "object") = some true)
    (k1_Schema : PySem.W.kitOne K (.ref C_Schema) (.ref C_Schema) = some true)
    (b1_Schema : PySem.W.kitOne K (.type "NoneType") (.ref C_Schema) = some false)
    (b2_Schema : PySem.W.kitOne K (.type "bool") (.ref C_Schema) = some false)
    (b3_Schema : PySem.W.kitOne K (.type "int") (.ref C_Schema) = some false)
    (b4_Schema : PySem.W.kitOne K (.type "str") (.ref C_Schema) = some false)
    (b5_Schema : PySem.W.kitOne K (.type "list") (.ref C_Schema) = some false)
    (b6_Schema : PySem.W.kitOne K (.type "tuple") (.ref C_Schema) = some false)
    (b7_Schema : PySem.W.kitOne K (.type "dict") (.ref C_Schema) = some false)
    (no_Schema_rows : PySem.W.findIn K (.ref C_Schema) "rows" = some none)
    (no_Schema_names : PySem.W.findIn K (.ref C_Schema) "names" = some none)
    (no_Schema_known : PySem.W.findIn K (.ref C_Schema) "known" = some none)
    (nf1_Schema : PySem.W.notFirst K C_Schema (.type "NoneType") = true)
    (nf2_Schema : PySem.W.notFirst K C_Schema (.type "bool") = true)
    (nf3_Schema : PySem.W.notFirst K C_Schema (.type "int") = true)
    (nf4_Schema : PySem.W.notFirst K C_Schema (.type "str") = true)
    (nf5_Schema : PySem.W.notFirst K C_Schema (.type "list") = true)
    (nf6_Schema : PySem.W.notFirst K C_Schema (.type "tuple") = true)
    (nf7_Schema : PySem.W.notFirst K C_Schema (.type "dict") = true)
    (nfo_Schema : PySem.W.notFirst K C_Schema (.ref C_Schema) = true)
    (mk_Schema : PySem.W.makesIn K C_Schema = true)
    (kc_Schema : PySem.W.keepIn K (.ref C_Schema) = true)
    (cr1_Schema : PySem.W.readsIn K C_Schema (.type "type") = true)
    (cr2_Schema : PySem.W.specialIn K (.ref C_Schema) "__getattribute__" = some (some (.builtin "type.__getattribute__")))
    (cr3_Schema_MOST : PySem.W.findCls K (.ref C_Schema) (.type "type") "MOST" = some (.val cu_Schema_MOST))
    (cr4_Schema_MOST : RelV (.int 6) cu_Schema_MOST)
    (cr3_Schema_FIELDS : PySem.W.findCls K (.ref C_Schema) (.type "type") "FIELDS" = some (.val cu_Schema_FIELDS))
    (cr4_Schema_FIELDS : RelV (.int 4) cu_Schema_FIELDS)
    (z_dict : PySem.W.nsIn K mainGlobals "dict" = some none)
    (z_sorted : PySem.W.nsIn K mainGlobals "sorted" = some none)
    (aG_MOST_TAG : PySem.W.nsIn K mainGlobals "MOST_TAG" = some (some u_MOST_TAG))
    (rG_MOST_TAG : RelV (.int 1000000000000000000000000000000) u_MOST_TAG)
    (aC_Graph : PySem.W.nsIn K mainGlobals "Graph" = some (some (.ref C_Graph)))
    (pg_Graph : PySem.W.plainGet K C_Graph Str.empty = true)
    (hd_Graph : PySem.W.hasDictIn K C_Graph = true)
    (po_Graph : PySem.W.plainOver K C_Graph = true)
    (sa_Graph : PySem.W.findIn K (.ref C_Graph) "__setattr__" = some (some (.builtin "object.__setattr__")))
    (ha_Graph : PySem.W.findIn K (.ref C_Graph) "__class__" = some (some (.builtin "object.__class__")))
    (hn_Graph : PySem.W.specialIn K (.builtin "object.__class__") "__get__" = some (some (.builtin "getset_descriptor.__get__")))
    (ht_Graph : PySem.W.takesIn K (.builtin "object.__class__") = some true)
    (hm_Graph : PySem.W.mroIn K C_Graph (.type "object") = some true)
    (k1_Graph : PySem.W.kitOne K (.ref C_Graph) (.ref C_Graph) = some true)
    (b1_Graph : PySem.W.kitOne K (.type "NoneType") (.ref C_Graph) = some false)
    (b2_Graph : PySem.W.kitOne K (.type "bool") (.ref C_Graph) = some false)
    (b3_Graph : PySem.W.kitOne K (.type "int") (.ref C_Graph) = some false)
    (b4_Graph : PySem.W.kitOne K (.type "str") (.ref C_Graph) = some false)
    (b5_Graph : PySem.W.kitOne K (.type "list") (.ref C_Graph) = some false)
    (b6_Graph : PySem.W.kitOne K (.type "tuple") (.ref C_Graph) = some false)
    (b7_Graph : PySem.W.kitOne K (.type "dict") (.ref C_Graph) = some false)
    (no_Graph_schema : PySem.W.findIn K (.ref C_Graph) "schema" = some none)
    (no_Graph_things : PySem.W.findIn K (.ref C_Graph) "things" = some none)
    (no_Graph_root_thing : PySem.W.findIn K (.ref C_Graph) "root_thing" = some none)
    (no_Graph_held : PySem.W.findIn K (.ref C_Graph) "held" = some none)
    (nf1_Graph : PySem.W.notFirst K C_Graph (.type "NoneType") = true)
    (nf2_Graph : PySem.W.notFirst K C_Graph (.type "bool") = true)
    (nf3_Graph : PySem.W.notFirst K C_Graph (.type "int") = true)
    (nf4_Graph : PySem.W.notFirst K C_Graph (.type "str") = true)
    (nf5_Graph : PySem.W.notFirst K C_Graph (.type "list") = true)
    (nf6_Graph : PySem.W.notFirst K C_Graph (.type "tuple") = true)
    (nf7_Graph : PySem.W.notFirst K C_Graph (.type "dict") = true)
    (nfo_Graph : PySem.W.notFirst K C_Graph (.ref C_Graph) = true)
    (mk_Graph : PySem.W.makesIn K C_Graph = true)
    (kc_Graph : PySem.W.keepIn K (.ref C_Graph) = true)
    (cr1_Graph : PySem.W.readsIn K C_Graph (.type "type") = true)
    (cr2_Graph : PySem.W.specialIn K (.ref C_Graph) "__getattribute__" = some (some (.builtin "type.__getattribute__")))
    (cr3_Graph_THINGS : PySem.W.findCls K (.ref C_Graph) (.type "type") "THINGS" = some (.val cu_Graph_THINGS))
    (cr4_Graph_THINGS : RelV (.int 400) cu_Graph_THINGS)
    (cr3_Graph_REFERENCES : PySem.W.findCls K (.ref C_Graph) (.type "type") "REFERENCES" = some (.val cu_Graph_REFERENCES))
    (cr4_Graph_REFERENCES : RelV (.int 1600) cu_Graph_REFERENCES)
    (a_Graph_size : PySem.W.findIn K (.ref C_Graph) "size" = some (some (.ref p_Graph_size)))
    (pg_Graph_size : PySem.W.specialIn K (.ref p_Graph_size) "__get__" = some (some (.builtin "property.__get__")))
    (pt_Graph_size : PySem.W.takesIn K (.ref p_Graph_size) = some true)
    (pr_Graph_size : PySem.W.recIn K p_Graph_size "property" = some (.ref f_Graph_size :: rs_Graph_size))
    (l_Graph_size : K.lookup f_Graph_size = some ⟨oc_Graph_size, od_Graph_size, .func (PySem.W.fnOf "size" "Graph.size" (defArgs s_Graph_size) (defBody s_Graph_size) (defScope s_Graph_size) .none kV_Graph_size dc_Graph_size pm_Graph_size an_Graph_size cd_Graph_size ct_Graph_size), sl_Graph_size⟩)
    (c_Graph_size : PySem.W.codeIn K cd_Graph_size "Graph.size" = true)
    (k_Graph_size : PySem.W.keepIn K (.ref f_Graph_size) = true)
    (a_Graph_root : PySem.W.findIn K (.ref C_Graph) "root" = some (some (.ref p_Graph_root)))
    (pg_Graph_root : PySem.W.specialIn K (.ref p_Graph_root) "__get__" = some (some (.builtin "property.__get__")))
    (pt_Graph_root : PySem.W.takesIn K (.ref p_Graph_root) = some true)
    (pr_Graph_root : PySem.W.recIn K p_Graph_root "property" = some (.ref f_Graph_root :: rs_Graph_root))
    (l_Graph_root : K.lookup f_Graph_root = some ⟨oc_Graph_root, od_Graph_root, .func (PySem.W.fnOf "root" "Graph.root" (defArgs s_Graph_root) (defBody s_Graph_root) (defScope s_Graph_root) .none kV_Graph_root dc_Graph_root pm_Graph_root an_Graph_root cd_Graph_root ct_Graph_root), sl_Graph_root⟩)
    (c_Graph_root : PySem.W.codeIn K cd_Graph_root "Graph.root" = true)
    (k_Graph_root : PySem.W.keepIn K (.ref f_Graph_root) = true)
    (a_Graph_add : PySem.W.findIn K (.ref C_Graph) "add" = some (some (.ref f_Graph_add)))
    (i_Graph_add : PySem.W.isFn K (.ref f_Graph_add) = true)
    (l_Graph_add : K.lookup f_Graph_add = some ⟨oc_Graph_add, od_Graph_add, .func (PySem.W.fnOf "add" "Graph.add" (defArgs s_Graph_add) (defBody s_Graph_add) (defScope s_Graph_add) .none (.ref kD_Graph_add) dc_Graph_add pm_Graph_add an_Graph_add cd_Graph_add ct_Graph_add), sl_Graph_add⟩)
    (c_Graph_add : PySem.W.codeIn K cd_Graph_add "Graph.add" = true)
    (k_Graph_add : PySem.W.keepIn K (.ref f_Graph_add) = true)
    (kw0_Graph_add : PySem.W.nsIn K kD_Graph_add "tag" = some (some ku0_Graph_add))
    (kr0_Graph_add : RelV (.int 0) ku0_Graph_add)
    (a_is_letters : PySem.W.nsIn K mainGlobals "is_letters" = some (some (.ref f_is_letters)))
    (l_is_letters : K.lookup f_is_letters = some ⟨oc_is_letters, od_is_letters, .func (PySem.W.fnOf "is_letters" "is_letters" (defArgs s_is_letters) (defBody s_is_letters) (defScope s_is_letters) .none kV_is_letters dc_is_letters pm_is_letters an_is_letters cd_is_letters ct_is_letters), sl_is_letters⟩)
    (c_is_letters : PySem.W.codeIn K cd_is_letters "is_letters" = true)
    (k_is_letters : PySem.W.keepIn K (.ref f_is_letters) = true)
    (a_is_kind_name : PySem.W.nsIn K mainGlobals "is_kind_name" = some (some (.ref f_is_kind_name)))
    (l_is_kind_name : K.lookup f_is_kind_name = some ⟨oc_is_kind_name, od_is_kind_name, .func (PySem.W.fnOf "is_kind_name" "is_kind_name" (defArgs s_is_kind_name) (defBody s_is_kind_name) (defScope s_is_kind_name) .none kV_is_kind_name dc_is_kind_name pm_is_kind_name an_is_kind_name cd_is_kind_name ct_is_kind_name), sl_is_kind_name⟩)
    (c_is_kind_name : PySem.W.codeIn K cd_is_kind_name "is_kind_name" = true)
    (k_is_kind_name : PySem.W.keepIn K (.ref f_is_kind_name) = true)
    (a_is_field_name : PySem.W.nsIn K mainGlobals "is_field_name" = some (some (.ref f_is_field_name)))
    (l_is_field_name : K.lookup f_is_field_name = some ⟨oc_is_field_name, od_is_field_name, .func (PySem.W.fnOf "is_field_name" "is_field_name" (defArgs s_is_field_name) (defBody s_is_field_name) (defScope s_is_field_name) .none kV_is_field_name dc_is_field_name pm_is_field_name an_is_field_name cd_is_field_name ct_is_field_name), sl_is_field_name⟩)
    (c_is_field_name : PySem.W.codeIn K cd_is_field_name "is_field_name" = true)
    (k_is_field_name : PySem.W.keepIn K (.ref f_is_field_name) = true)
    (a_is_mode : PySem.W.nsIn K mainGlobals "is_mode" = some (some (.ref f_is_mode)))
    (l_is_mode : K.lookup f_is_mode = some ⟨oc_is_mode, od_is_mode, .func (PySem.W.fnOf "is_mode" "is_mode" (defArgs s_is_mode) (defBody s_is_mode) (defScope s_is_mode) .none kV_is_mode dc_is_mode pm_is_mode an_is_mode cd_is_mode ct_is_mode), sl_is_mode⟩)
    (c_is_mode : PySem.W.codeIn K cd_is_mode "is_mode" = true)
    (k_is_mode : PySem.W.keepIn K (.ref f_is_mode) = true)
    (a_is_field : PySem.W.nsIn K mainGlobals "is_field" = some (some (.ref f_is_field)))
    (l_is_field : K.lookup f_is_field = some ⟨oc_is_field, od_is_field, .func (PySem.W.fnOf "is_field" "is_field" (defArgs s_is_field) (defBody s_is_field) (defScope s_is_field) .none kV_is_field dc_is_field pm_is_field an_is_field cd_is_field ct_is_field), sl_is_field⟩)
    (c_is_field : PySem.W.codeIn K cd_is_field "is_field" = true)
    (k_is_field : PySem.W.keepIn K (.ref f_is_field) = true)
    (a_is_bases : PySem.W.nsIn K mainGlobals "is_bases" = some (some (.ref f_is_bases)))
    (l_is_bases : K.lookup f_is_bases = some ⟨oc_is_bases, od_is_bases, .func (PySem.W.fnOf "is_bases" "is_bases" (defArgs s_is_bases) (defBody s_is_bases) (defScope s_is_bases) .none kV_is_bases dc_is_bases pm_is_bases an_is_bases cd_is_bases ct_is_bases), sl_is_bases⟩)
    (c_is_bases : PySem.W.codeIn K cd_is_bases "is_bases" = true)
    (k_is_bases : PySem.W.keepIn K (.ref f_is_bases) = true)
    (a_Kind_init : PySem.W.findIn K (.ref C_Kind) "__init__" = some (some (.ref f_Kind_init)))
    (i_Kind_init : PySem.W.isFn K (.ref f_Kind_init) = true)
    (l_Kind_init : K.lookup f_Kind_init = some ⟨oc_Kind_init, od_Kind_init, .func (PySem.W.fnOf "__init__" "Kind.__init__" (defArgs s_Kind_init) (defBody s_Kind_init) (defScope s_Kind_init) .none kV_Kind_init dc_Kind_init pm_Kind_init an_Kind_init cd_Kind_init ct_Kind_init), sl_Kind_init⟩)
    (c_Kind_init : PySem.W.codeIn K cd_Kind_init "Kind.__init__" = true)
    (k_Kind_init : PySem.W.keepIn K (.ref f_Kind_init) = true)
    (a_make_kind : PySem.W.nsIn K mainGlobals "make_kind" = some (some (.ref f_make_kind)))
    (l_make_kind : K.lookup f_make_kind = some ⟨oc_make_kind, od_make_kind, .func (PySem.W.fnOf "make_kind" "make_kind" (defArgs s_make_kind) (defBody s_make_kind) (defScope s_make_kind) .none kV_make_kind dc_make_kind pm_make_kind an_make_kind cd_make_kind ct_make_kind), sl_make_kind⟩)
    (c_make_kind : PySem.W.codeIn K cd_make_kind "make_kind" = true)
    (k_make_kind : PySem.W.keepIn K (.ref f_make_kind) = true)
    (a_Schema_init : PySem.W.findIn K (.ref C_Schema) "__init__" = some (some (.ref f_Schema_init)))
    (i_Schema_init : PySem.W.isFn K (.ref f_Schema_init) = true)
    (l_Schema_init : K.lookup f_Schema_init = some ⟨oc_Schema_init, od_Schema_init, .func (PySem.W.fnOf "__init__" "Schema.__init__" (defArgs s_Schema_init) (defBody s_Schema_init) (defScope s_Schema_init) .none kV_Schema_init dc_Schema_init pm_Schema_init an_Schema_init cd_Schema_init ct_Schema_init), sl_Schema_init⟩)
    (c_Schema_init : PySem.W.codeIn K cd_Schema_init "Schema.__init__" = true)
    (k_Schema_init : PySem.W.keepIn K (.ref f_Schema_init) = true)
    (a_Schema_getitem : PySem.W.findIn K (.ref C_Schema) "__getitem__" = some (some (.ref f_Schema_getitem)))
    (i_Schema_getitem : PySem.W.isFn K (.ref f_Schema_getitem) = true)
    (l_Schema_getitem : K.lookup f_Schema_getitem = some ⟨oc_Schema_getitem, od_Schema_getitem, .func (PySem.W.fnOf "__getitem__" "Schema.__getitem__" (defArgs s_Schema_getitem) (defBody s_Schema_getitem) (defScope s_Schema_getitem) .none kV_Schema_getitem dc_Schema_getitem pm_Schema_getitem an_Schema_getitem cd_Schema_getitem ct_Schema_getitem), sl_Schema_getitem⟩)
    (c_Schema_getitem : PySem.W.codeIn K cd_Schema_getitem "Schema.__getitem__" = true)
    (k_Schema_getitem : PySem.W.keepIn K (.ref f_Schema_getitem) = true)
    (a_is_integer : PySem.W.nsIn K mainGlobals "is_integer" = some (some (.ref f_is_integer)))
    (l_is_integer : K.lookup f_is_integer = some ⟨oc_is_integer, od_is_integer, .func (PySem.W.fnOf "is_integer" "is_integer" (defArgs s_is_integer) (defBody s_is_integer) (defScope s_is_integer) .none kV_is_integer dc_is_integer pm_is_integer an_is_integer cd_is_integer ct_is_integer), sl_is_integer⟩)
    (c_is_integer : PySem.W.codeIn K cd_is_integer "is_integer" = true)
    (k_is_integer : PySem.W.keepIn K (.ref f_is_integer) = true)
    (a_Schema_is_under : PySem.W.findIn K (.ref C_Schema) "is_under" = some (some (.ref f_Schema_is_under)))
    (i_Schema_is_under : PySem.W.isFn K (.ref f_Schema_is_under) = true)
    (l_Schema_is_under : K.lookup f_Schema_is_under = some ⟨oc_Schema_is_under, od_Schema_is_under, .func (PySem.W.fnOf "is_under" "Schema.is_under" (defArgs s_Schema_is_under) (defBody s_Schema_is_under) (defScope s_Schema_is_under) .none kV_Schema_is_under dc_Schema_is_under pm_Schema_is_under an_Schema_is_under cd_Schema_is_under ct_Schema_is_under), sl_Schema_is_under⟩)
    (c_Schema_is_under : PySem.W.codeIn K cd_Schema_is_under "Schema.is_under" = true)
    (k_Schema_is_under : PySem.W.keepIn K (.ref f_Schema_is_under) = true)
    (a_is_concrete : PySem.W.nsIn K mainGlobals "is_concrete" = some (some (.ref f_is_concrete)))
    (l_is_concrete : K.lookup f_is_concrete = some ⟨oc_is_concrete, od_is_concrete, .func (PySem.W.fnOf "is_concrete" "is_concrete" (defArgs s_is_concrete) (defBody s_is_concrete) (defScope s_is_concrete) .none kV_is_concrete dc_is_concrete pm_is_concrete an_is_concrete cd_is_concrete ct_is_concrete), sl_is_concrete⟩)
    (c_is_concrete : PySem.W.codeIn K cd_is_concrete "is_concrete" = true)
    (k_is_concrete : PySem.W.keepIn K (.ref f_is_concrete) = true)
    (a_is_tag : PySem.W.nsIn K mainGlobals "is_tag" = some (some (.ref f_is_tag)))
    (l_is_tag : K.lookup f_is_tag = some ⟨oc_is_tag, od_is_tag, .func (PySem.W.fnOf "is_tag" "is_tag" (defArgs s_is_tag) (defBody s_is_tag) (defScope s_is_tag) .none kV_is_tag dc_is_tag pm_is_tag an_is_tag cd_is_tag ct_is_tag), sl_is_tag⟩)
    (c_is_tag : PySem.W.codeIn K cd_is_tag "is_tag" = true)
    (k_is_tag : PySem.W.keepIn K (.ref f_is_tag) = true)
    (a_is_member : PySem.W.nsIn K mainGlobals "is_member" = some (some (.ref f_is_member)))
    (l_is_member : K.lookup f_is_member = some ⟨oc_is_member, od_is_member, .func (PySem.W.fnOf "is_member" "is_member" (defArgs s_is_member) (defBody s_is_member) (defScope s_is_member) .none kV_is_member dc_is_member pm_is_member an_is_member cd_is_member ct_is_member), sl_is_member⟩)
    (c_is_member : PySem.W.codeIn K cd_is_member "is_member" = true)
    (k_is_member : PySem.W.keepIn K (.ref f_is_member) = true)
    (a_is_value : PySem.W.nsIn K mainGlobals "is_value" = some (some (.ref f_is_value)))
    (l_is_value : K.lookup f_is_value = some ⟨oc_is_value, od_is_value, .func (PySem.W.fnOf "is_value" "is_value" (defArgs s_is_value) (defBody s_is_value) (defScope s_is_value) .none kV_is_value dc_is_value pm_is_value an_is_value cd_is_value ct_is_value), sl_is_value⟩)
    (c_is_value : PySem.W.codeIn K cd_is_value "is_value" = true)
    (k_is_value : PySem.W.keepIn K (.ref f_is_value) = true)
    (a_kept_value : PySem.W.nsIn K mainGlobals "kept_value" = some (some (.ref f_kept_value)))
    (l_kept_value : K.lookup f_kept_value = some ⟨oc_kept_value, od_kept_value, .func (PySem.W.fnOf "kept_value" "kept_value" (defArgs s_kept_value) (defBody s_kept_value) (defScope s_kept_value) .none kV_kept_value dc_kept_value pm_kept_value an_kept_value cd_kept_value ct_kept_value), sl_kept_value⟩)
    (c_kept_value : PySem.W.codeIn K cd_kept_value "kept_value" = true)
    (k_kept_value : PySem.W.keepIn K (.ref f_kept_value) = true)
    (a_empty_value : PySem.W.nsIn K mainGlobals "empty_value" = some (some (.ref f_empty_value)))
    (l_empty_value : K.lookup f_empty_value = some ⟨oc_empty_value, od_empty_value, .func (PySem.W.fnOf "empty_value" "empty_value" (defArgs s_empty_value) (defBody s_empty_value) (defScope s_empty_value) .none kV_empty_value dc_empty_value pm_empty_value an_empty_value cd_empty_value ct_empty_value), sl_empty_value⟩)
    (c_empty_value : PySem.W.codeIn K cd_empty_value "empty_value" = true)
    (k_empty_value : PySem.W.keepIn K (.ref f_empty_value) = true)
    (a_numbers_in : PySem.W.nsIn K mainGlobals "numbers_in" = some (some (.ref f_numbers_in)))
    (l_numbers_in : K.lookup f_numbers_in = some ⟨oc_numbers_in, od_numbers_in, .func (PySem.W.fnOf "numbers_in" "numbers_in" (defArgs s_numbers_in) (defBody s_numbers_in) (defScope s_numbers_in) .none kV_numbers_in dc_numbers_in pm_numbers_in an_numbers_in cd_numbers_in ct_numbers_in), sl_numbers_in⟩)
    (c_numbers_in : PySem.W.codeIn K cd_numbers_in "numbers_in" = true)
    (k_numbers_in : PySem.W.keepIn K (.ref f_numbers_in) = true)
    (a_Graph_init : PySem.W.findIn K (.ref C_Graph) "__init__" = some (some (.ref f_Graph_init)))
    (i_Graph_init : PySem.W.isFn K (.ref f_Graph_init) = true)
    (l_Graph_init : K.lookup f_Graph_init = some ⟨oc_Graph_init, od_Graph_init, .func (PySem.W.fnOf "__init__" "Graph.__init__" (defArgs s_Graph_init) (defBody s_Graph_init) (defScope s_Graph_init) .none kV_Graph_init dc_Graph_init pm_Graph_init an_Graph_init cd_Graph_init ct_Graph_init), sl_Graph_init⟩)
    (c_Graph_init : PySem.W.codeIn K cd_Graph_init "Graph.__init__" = true)
    (k_Graph_init : PySem.W.keepIn K (.ref f_Graph_init) = true)
    (a_Graph_append_thing : PySem.W.findIn K (.ref C_Graph) "append_thing" = some (some (.ref f_Graph_append_thing)))
    (i_Graph_append_thing : PySem.W.isFn K (.ref f_Graph_append_thing) = true)
    (l_Graph_append_thing : K.lookup f_Graph_append_thing = some ⟨oc_Graph_append_thing, od_Graph_append_thing, .func (PySem.W.fnOf "append_thing" "Graph.append_thing" (defArgs s_Graph_append_thing) (defBody s_Graph_append_thing) (defScope s_Graph_append_thing) .none kV_Graph_append_thing dc_Graph_append_thing pm_Graph_append_thing an_Graph_append_thing cd_Graph_append_thing ct_Graph_append_thing), sl_Graph_append_thing⟩)
    (c_Graph_append_thing : PySem.W.codeIn K cd_Graph_append_thing "Graph.append_thing" = true)
    (k_Graph_append_thing : PySem.W.keepIn K (.ref f_Graph_append_thing) = true)
    (a_Graph_check_thing : PySem.W.findIn K (.ref C_Graph) "check_thing" = some (some (.ref f_Graph_check_thing)))
    (i_Graph_check_thing : PySem.W.isFn K (.ref f_Graph_check_thing) = true)
    (l_Graph_check_thing : K.lookup f_Graph_check_thing = some ⟨oc_Graph_check_thing, od_Graph_check_thing, .func (PySem.W.fnOf "check_thing" "Graph.check_thing" (defArgs s_Graph_check_thing) (defBody s_Graph_check_thing) (defScope s_Graph_check_thing) .none kV_Graph_check_thing dc_Graph_check_thing pm_Graph_check_thing an_Graph_check_thing cd_Graph_check_thing ct_Graph_check_thing), sl_Graph_check_thing⟩)
    (c_Graph_check_thing : PySem.W.codeIn K cd_Graph_check_thing "Graph.check_thing" = true)
    (k_Graph_check_thing : PySem.W.keepIn K (.ref f_Graph_check_thing) = true)
    (a_Graph_len : PySem.W.findIn K (.ref C_Graph) "__len__" = some (some (.ref f_Graph_len)))
    (i_Graph_len : PySem.W.isFn K (.ref f_Graph_len) = true)
    (l_Graph_len : K.lookup f_Graph_len = some ⟨oc_Graph_len, od_Graph_len, .func (PySem.W.fnOf "__len__" "Graph.__len__" (defArgs s_Graph_len) (defBody s_Graph_len) (defScope s_Graph_len) .none kV_Graph_len dc_Graph_len pm_Graph_len an_Graph_len cd_Graph_len ct_Graph_len), sl_Graph_len⟩)
    (c_Graph_len : PySem.W.codeIn K cd_Graph_len "Graph.__len__" = true)
    (k_Graph_len : PySem.W.keepIn K (.ref f_Graph_len) = true)
    (a_Graph_row : PySem.W.findIn K (.ref C_Graph) "row" = some (some (.ref f_Graph_row)))
    (i_Graph_row : PySem.W.isFn K (.ref f_Graph_row) = true)
    (l_Graph_row : K.lookup f_Graph_row = some ⟨oc_Graph_row, od_Graph_row, .func (PySem.W.fnOf "row" "Graph.row" (defArgs s_Graph_row) (defBody s_Graph_row) (defScope s_Graph_row) .none kV_Graph_row dc_Graph_row pm_Graph_row an_Graph_row cd_Graph_row ct_Graph_row), sl_Graph_row⟩)
    (c_Graph_row : PySem.W.codeIn K cd_Graph_row "Graph.row" = true)
    (k_Graph_row : PySem.W.keepIn K (.ref f_Graph_row) = true)
    (a_Graph_all_rows : PySem.W.findIn K (.ref C_Graph) "all_rows" = some (some (.ref f_Graph_all_rows)))
    (i_Graph_all_rows : PySem.W.isFn K (.ref f_Graph_all_rows) = true)
    (l_Graph_all_rows : K.lookup f_Graph_all_rows = some ⟨oc_Graph_all_rows, od_Graph_all_rows, .func (PySem.W.fnOf "all_rows" "Graph.all_rows" (defArgs s_Graph_all_rows) (defBody s_Graph_all_rows) (defScope s_Graph_all_rows) .none kV_Graph_all_rows dc_Graph_all_rows pm_Graph_all_rows an_Graph_all_rows cd_Graph_all_rows ct_Graph_all_rows), sl_Graph_all_rows⟩)
    (c_Graph_all_rows : PySem.W.codeIn K cd_Graph_all_rows "Graph.all_rows" = true)
    (k_Graph_all_rows : PySem.W.keepIn K (.ref f_Graph_all_rows) = true)
    (a_Schema_eq : PySem.W.findIn K (.ref C_Schema) "__eq__" = some (some (.ref f_Schema_eq)))
    (i_Schema_eq : PySem.W.isFn K (.ref f_Schema_eq) = true)
    (l_Schema_eq : K.lookup f_Schema_eq = some ⟨oc_Schema_eq, od_Schema_eq, .func (PySem.W.fnOf "__eq__" "Schema.__eq__" (defArgs s_Schema_eq) (defBody s_Schema_eq) (defScope s_Schema_eq) .none kV_Schema_eq dc_Schema_eq pm_Schema_eq an_Schema_eq cd_Schema_eq ct_Schema_eq), sl_Schema_eq⟩)
    (c_Schema_eq : PySem.W.codeIn K cd_Schema_eq "Schema.__eq__" = true)
    (k_Schema_eq : PySem.W.keepIn K (.ref f_Schema_eq) = true)
    (a_l_pen : PySem.W.nsIn K mainGlobals "_law_pen" = some (some (.ref f_l_pen)))
    (l_l_pen : K.lookup f_l_pen = some ⟨oc_l_pen, od_l_pen, .func (PySem.W.fnOf "_law_pen" "_law_pen" (defArgs s_l_pen) (defBody s_l_pen) (defScope s_l_pen) .none kV_l_pen dc_l_pen pm_l_pen an_l_pen cd_l_pen ct_l_pen), sl_l_pen⟩)
    (c_l_pen : PySem.W.codeIn K cd_l_pen "_law_pen" = true)
    (k_l_pen : PySem.W.keepIn K (.ref f_l_pen) = true)
    (a_l_take : PySem.W.nsIn K mainGlobals "_law_take" = some (some (.ref f_l_take)))
    (l_l_take : K.lookup f_l_take = some ⟨oc_l_take, od_l_take, .func (PySem.W.fnOf "_law_take" "_law_take" (defArgs s_l_take) (defBody s_l_take) (defScope s_l_take) .none kV_l_take dc_l_take pm_l_take an_l_take cd_l_take ct_l_take), sl_l_take⟩)
    (c_l_take : PySem.W.codeIn K cd_l_take "_law_take" = true)
    (k_l_take : PySem.W.keepIn K (.ref f_l_take) = true)
    (a_l_bit : PySem.W.nsIn K mainGlobals "_law_bit" = some (some (.ref f_l_bit)))
    (l_l_bit : K.lookup f_l_bit = some ⟨oc_l_bit, od_l_bit, .func (PySem.W.fnOf "_law_bit" "_law_bit" (defArgs s_l_bit) (defBody s_l_bit) (defScope s_l_bit) .none kV_l_bit dc_l_bit pm_l_bit an_l_bit cd_l_bit ct_l_bit), sl_l_bit⟩)
    (c_l_bit : PySem.W.codeIn K cd_l_bit "_law_bit" = true)
    (k_l_bit : PySem.W.keepIn K (.ref f_l_bit) = true)
    (a_l_letters : PySem.W.nsIn K mainGlobals "_law_letters" = some (some (.ref f_l_letters)))
    (l_l_letters : K.lookup f_l_letters = some ⟨oc_l_letters, od_l_letters, .func (PySem.W.fnOf "_law_letters" "_law_letters" (defArgs s_l_letters) (defBody s_l_letters) (defScope s_l_letters) .none kV_l_letters dc_l_letters pm_l_letters an_l_letters cd_l_letters ct_l_letters), sl_l_letters⟩)
    (c_l_letters : PySem.W.codeIn K cd_l_letters "_law_letters" = true)
    (k_l_letters : PySem.W.keepIn K (.ref f_l_letters) = true)
    (a_l_names : PySem.W.nsIn K mainGlobals "_law_names" = some (some (.ref f_l_names)))
    (l_l_names : K.lookup f_l_names = some ⟨oc_l_names, od_l_names, .func (PySem.W.fnOf "_law_names" "_law_names" (defArgs s_l_names) (defBody s_l_names) (defScope s_l_names) .none kV_l_names dc_l_names pm_l_names an_l_names cd_l_names ct_l_names), sl_l_names⟩)
    (c_l_names : PySem.W.codeIn K cd_l_names "_law_names" = true)
    (k_l_names : PySem.W.keepIn K (.ref f_l_names) = true)
    (a_l_kind_names : PySem.W.nsIn K mainGlobals "_law_kind_names" = some (some (.ref f_l_kind_names)))
    (l_l_kind_names : K.lookup f_l_kind_names = some ⟨oc_l_kind_names, od_l_kind_names, .func (PySem.W.fnOf "_law_kind_names" "_law_kind_names" (defArgs s_l_kind_names) (defBody s_l_kind_names) (defScope s_l_kind_names) .none kV_l_kind_names dc_l_kind_names pm_l_kind_names an_l_kind_names cd_l_kind_names ct_l_kind_names), sl_l_kind_names⟩)
    (c_l_kind_names : PySem.W.codeIn K cd_l_kind_names "_law_kind_names" = true)
    (k_l_kind_names : PySem.W.keepIn K (.ref f_l_kind_names) = true)
    (a_l_line : PySem.W.nsIn K mainGlobals "_law_line" = some (some (.ref f_l_line)))
    (l_l_line : K.lookup f_l_line = some ⟨oc_l_line, od_l_line, .func (PySem.W.fnOf "_law_line" "_law_line" (defArgs s_l_line) (defBody s_l_line) (defScope s_l_line) .none kV_l_line dc_l_line pm_l_line an_l_line cd_l_line ct_l_line), sl_l_line⟩)
    (c_l_line : PySem.W.codeIn K cd_l_line "_law_line" = true)
    (k_l_line : PySem.W.keepIn K (.ref f_l_line) = true)
    (a_l_fields : PySem.W.nsIn K mainGlobals "_law_fields" = some (some (.ref f_l_fields)))
    (l_l_fields : K.lookup f_l_fields = some ⟨oc_l_fields, od_l_fields, .func (PySem.W.fnOf "_law_fields" "_law_fields" (defArgs s_l_fields) (defBody s_l_fields) (defScope s_l_fields) .none kV_l_fields dc_l_fields pm_l_fields an_l_fields cd_l_fields ct_l_fields), sl_l_fields⟩)
    (c_l_fields : PySem.W.codeIn K cd_l_fields "_law_fields" = true)
    (k_l_fields : PySem.W.keepIn K (.ref f_l_fields) = true)
    (a_l_concrete : PySem.W.nsIn K mainGlobals "_law_concrete" = some (some (.ref f_l_concrete)))
    (l_l_concrete : K.lookup f_l_concrete = some ⟨oc_l_concrete, od_l_concrete, .func (PySem.W.fnOf "_law_concrete" "_law_concrete" (defArgs s_l_concrete) (defBody s_l_concrete) (defScope s_l_concrete) .none kV_l_concrete dc_l_concrete pm_l_concrete an_l_concrete cd_l_concrete ct_l_concrete), sl_l_concrete⟩)
    (c_l_concrete : PySem.W.codeIn K cd_l_concrete "_law_concrete" = true)
    (k_l_concrete : PySem.W.keepIn K (.ref f_l_concrete) = true)
    (a_l_under : PySem.W.nsIn K mainGlobals "_law_under" = some (some (.ref f_l_under)))
    (l_l_under : K.lookup f_l_under = some ⟨oc_l_under, od_l_under, .func (PySem.W.fnOf "_law_under" "_law_under" (defArgs s_l_under) (defBody s_l_under) (defScope s_l_under) .none kV_l_under dc_l_under pm_l_under an_l_under cd_l_under ct_l_under), sl_l_under⟩)
    (c_l_under : PySem.W.codeIn K cd_l_under "_law_under" = true)
    (k_l_under : PySem.W.keepIn K (.ref f_l_under) = true)
    (a_l_tag : PySem.W.nsIn K mainGlobals "_law_tag" = some (some (.ref f_l_tag)))
    (l_l_tag : K.lookup f_l_tag = some ⟨oc_l_tag, od_l_tag, .func (PySem.W.fnOf "_law_tag" "_law_tag" (defArgs s_l_tag) (defBody s_l_tag) (defScope s_l_tag) .none kV_l_tag dc_l_tag pm_l_tag an_l_tag cd_l_tag ct_l_tag), sl_l_tag⟩)
    (c_l_tag : PySem.W.codeIn K cd_l_tag "_law_tag" = true)
    (k_l_tag : PySem.W.keepIn K (.ref f_l_tag) = true)
    (a_l_targets : PySem.W.nsIn K mainGlobals "_law_targets" = some (some (.ref f_l_targets)))
    (l_l_targets : K.lookup f_l_targets = some ⟨oc_l_targets, od_l_targets, .func (PySem.W.fnOf "_law_targets" "_law_targets" (defArgs s_l_targets) (defBody s_l_targets) (defScope s_l_targets) .none kV_l_targets dc_l_targets pm_l_targets an_l_targets cd_l_targets ct_l_targets), sl_l_targets⟩)
    (c_l_targets : PySem.W.codeIn K cd_l_targets "_law_targets" = true)
    (k_l_targets : PySem.W.keepIn K (.ref f_l_targets) = true)
    (a_l_value : PySem.W.nsIn K mainGlobals "_law_value" = some (some (.ref f_l_value)))
    (l_l_value : K.lookup f_l_value = some ⟨oc_l_value, od_l_value, .func (PySem.W.fnOf "_law_value" "_law_value" (defArgs s_l_value) (defBody s_l_value) (defScope s_l_value) .none kV_l_value dc_l_value pm_l_value an_l_value cd_l_value ct_l_value), sl_l_value⟩)
    (c_l_value : PySem.W.codeIn K cd_l_value "_law_value" = true)
    (k_l_value : PySem.W.keepIn K (.ref f_l_value) = true)
    (a_l_copied : PySem.W.nsIn K mainGlobals "_law_copied" = some (some (.ref f_l_copied)))
    (l_l_copied : K.lookup f_l_copied = some ⟨oc_l_copied, od_l_copied, .func (PySem.W.fnOf "_law_copied" "_law_copied" (defArgs s_l_copied) (defBody s_l_copied) (defScope s_l_copied) .none kV_l_copied dc_l_copied pm_l_copied an_l_copied cd_l_copied ct_l_copied), sl_l_copied⟩)
    (c_l_copied : PySem.W.codeIn K cd_l_copied "_law_copied" = true)
    (k_l_copied : PySem.W.keepIn K (.ref f_l_copied) = true)
    (a_l_numbers : PySem.W.nsIn K mainGlobals "_law_numbers" = some (some (.ref f_l_numbers)))
    (l_l_numbers : K.lookup f_l_numbers = some ⟨oc_l_numbers, od_l_numbers, .func (PySem.W.fnOf "_law_numbers" "_law_numbers" (defArgs s_l_numbers) (defBody s_l_numbers) (defScope s_l_numbers) .none kV_l_numbers dc_l_numbers pm_l_numbers an_l_numbers cd_l_numbers ct_l_numbers), sl_l_numbers⟩)
    (c_l_numbers : PySem.W.codeIn K cd_l_numbers "_law_numbers" = true)
    (k_l_numbers : PySem.W.keepIn K (.ref f_l_numbers) = true)
    (a_l_held : PySem.W.nsIn K mainGlobals "_law_held" = some (some (.ref f_l_held)))
    (l_l_held : K.lookup f_l_held = some ⟨oc_l_held, od_l_held, .func (PySem.W.fnOf "_law_held" "_law_held" (defArgs s_l_held) (defBody s_l_held) (defScope s_l_held) .none kV_l_held dc_l_held pm_l_held an_l_held cd_l_held ct_l_held), sl_l_held⟩)
    (c_l_held : PySem.W.codeIn K cd_l_held "_law_held" = true)
    (k_l_held : PySem.W.keepIn K (.ref f_l_held) = true)
    (a_l_size : PySem.W.nsIn K mainGlobals "_law_size" = some (some (.ref f_l_size)))
    (l_l_size : K.lookup f_l_size = some ⟨oc_l_size, od_l_size, .func (PySem.W.fnOf "_law_size" "_law_size" (defArgs s_l_size) (defBody s_l_size) (defScope s_l_size) .none kV_l_size dc_l_size pm_l_size an_l_size cd_l_size ct_l_size), sl_l_size⟩)
    (c_l_size : PySem.W.codeIn K cd_l_size "_law_size" = true)
    (k_l_size : PySem.W.keepIn K (.ref f_l_size) = true)
    (a_l_is_integer : PySem.W.nsIn K mainGlobals "_law_is_integer" = some (some (.ref f_l_is_integer)))
    (l_l_is_integer : K.lookup f_l_is_integer = some ⟨oc_l_is_integer, od_l_is_integer, .func (PySem.W.fnOf "_law_is_integer" "_law_is_integer" (defArgs s_l_is_integer) (defBody s_l_is_integer) (defScope s_l_is_integer) .none kV_l_is_integer dc_l_is_integer pm_l_is_integer an_l_is_integer cd_l_is_integer ct_l_is_integer), sl_l_is_integer⟩)
    (c_l_is_integer : PySem.W.codeIn K cd_l_is_integer "_law_is_integer" = true)
    (k_l_is_integer : PySem.W.keepIn K (.ref f_l_is_integer) = true)
    (a_l_shows : PySem.W.nsIn K mainGlobals "_law_shows" = some (some (.ref f_l_shows)))
    (l_l_shows : K.lookup f_l_shows = some ⟨oc_l_shows, od_l_shows, .func (PySem.W.fnOf "_law_shows" "_law_shows" (defArgs s_l_shows) (defBody s_l_shows) (defScope s_l_shows) .none kV_l_shows dc_l_shows pm_l_shows an_l_shows cd_l_shows ct_l_shows), sl_l_shows⟩)
    (c_l_shows : PySem.W.codeIn K cd_l_shows "_law_shows" = true)
    (k_l_shows : PySem.W.keepIn K (.ref f_l_shows) = true)
    (a_l_empty : PySem.W.nsIn K mainGlobals "_law_empty" = some (some (.ref f_l_empty)))
    (l_l_empty : K.lookup f_l_empty = some ⟨oc_l_empty, od_l_empty, .func (PySem.W.fnOf "_law_empty" "_law_empty" (defArgs s_l_empty) (defBody s_l_empty) (defScope s_l_empty) .none kV_l_empty dc_l_empty pm_l_empty an_l_empty cd_l_empty ct_l_empty), sl_l_empty⟩)
    (c_l_empty : PySem.W.codeIn K cd_l_empty "_law_empty" = true)
    (k_l_empty : PySem.W.keepIn K (.ref f_l_empty) = true)
    (a_l_family : PySem.W.nsIn K mainGlobals "_law_family" = some (some (.ref f_l_family)))
    (l_l_family : K.lookup f_l_family = some ⟨oc_l_family, od_l_family, .func (PySem.W.fnOf "_law_family" "_law_family" (defArgs s_l_family) (defBody s_l_family) (defScope s_l_family) .none kV_l_family dc_l_family pm_l_family an_l_family cd_l_family ct_l_family), sl_l_family⟩)
    (c_l_family : PySem.W.codeIn K cd_l_family "_law_family" = true)
    (k_l_family : PySem.W.keepIn K (.ref f_l_family) = true)
    (a_l_added : PySem.W.nsIn K mainGlobals "_law_added" = some (some (.ref f_l_added)))
    (l_l_added : K.lookup f_l_added = some ⟨oc_l_added, od_l_added, .func (PySem.W.fnOf "_law_added" "_law_added" (defArgs s_l_added) (defBody s_l_added) (defScope s_l_added) .none kV_l_added dc_l_added pm_l_added an_l_added cd_l_added ct_l_added), sl_l_added⟩)
    (c_l_added : PySem.W.codeIn K cd_l_added "_law_added" = true)
    (k_l_added : PySem.W.keepIn K (.ref f_l_added) = true)
    (a_l_one_more : PySem.W.nsIn K mainGlobals "_law_one_more" = some (some (.ref f_l_one_more)))
    (l_l_one_more : K.lookup f_l_one_more = some ⟨oc_l_one_more, od_l_one_more, .func (PySem.W.fnOf "_law_one_more" "_law_one_more" (defArgs s_l_one_more) (defBody s_l_one_more) (defScope s_l_one_more) .none kV_l_one_more dc_l_one_more pm_l_one_more an_l_one_more cd_l_one_more ct_l_one_more), sl_l_one_more⟩)
    (c_l_one_more : PySem.W.codeIn K cd_l_one_more "_law_one_more" = true)
    (k_l_one_more : PySem.W.keepIn K (.ref f_l_one_more) = true)
    (a_law : PySem.W.nsIn K mainGlobals "law" = some (some (.ref f_law)))
    (l_law : K.lookup f_law = some ⟨oc_law, od_law, .func (PySem.W.fnOf "law" "law" (defArgs s_law) (defBody s_law) (defScope s_law) .none kV_law dc_law pm_law an_law cd_law ct_law), sl_law⟩)
    (c_law : PySem.W.codeIn K cd_law "law" = true)
    (k_law : PySem.W.keepIn K (.ref f_law) = true)
    : ∃ fd : FuncData, (∀ (s : Shared) (v : Value), BindsTo s fd ⟨[v], []⟩ [("_law_script", v)]) ∧ ∀ base : Heap, K.In base → base.Ns mainGlobals mg → FnOk l.prog w K mg base (L2.CX l.prog w) 12 fa fd ["_law_script"] (spLaw K) := by
  have e := hfa.symm.trans (PySem.W.mg_of X G a_law)
  cases e
  have er_BadSchema : ErC l.prog K "BadSchema.__init__" ["at"] C_BadSchema := er_mk PySem.W.kxs_ValueError PySem.F.excBase_ValueError PySem.F.store_ValueError fm_BadSchema init_BadSchema ty_BadSchema lk_BadSchema hc_BadSchema code_BadSchema hv_BadSchema hf_BadSchema cell_BadSchema ic_BadSchema sub_BadSchema z_super z_tp z_top sup_BadSchema base_BadSchema exc_BadSchema sa_BadSchema ov_BadSchema hd_BadSchema (by
    intro f hf
    simp only [List.mem_cons, List.not_mem_nil, or_false] at hf
    rcases hf with rfl <;> assumption) exC_BadSchema tyC_BadSchema kC_BadSchema
  have er_NoKind : ErC l.prog K "NoKind.__init__" ["kind"] C_NoKind := er_mk PySem.W.kxs_ValueError PySem.F.excBase_ValueError PySem.F.store_ValueError fm_NoKind init_NoKind ty_NoKind lk_NoKind hc_NoKind code_NoKind hv_NoKind hf_NoKind cell_NoKind ic_NoKind sub_NoKind z_super z_tp z_top sup_NoKind base_NoKind exc_NoKind sa_NoKind ov_NoKind hd_NoKind (by
    intro f hf
    simp only [List.mem_cons, List.not_mem_nil, or_false] at hf
    rcases hf with rfl <;> assumption) exC_NoKind tyC_NoKind kC_NoKind
  have er_BadTag : ErC l.prog K "BadTag.__init__" ["tag"] C_BadTag := er_mk PySem.W.kxs_ValueError PySem.F.excBase_ValueError PySem.F.store_ValueError fm_BadTag init_BadTag ty_BadTag lk_BadTag hc_BadTag code_BadTag hv_BadTag hf_BadTag cell_BadTag ic_BadTag sub_BadTag z_super z_tp z_top sup_BadTag base_BadTag exc_BadTag sa_BadTag ov_BadTag hd_BadTag (by
    intro f hf
    simp only [List.mem_cons, List.not_mem_nil, or_false] at hf
    rcases hf with rfl <;> assumption) exC_BadTag tyC_BadTag kC_BadTag
  have er_NoField : ErC l.prog K "NoField.__init__" ["kind", "field"] C_NoField := er_mk PySem.W.kxs_ValueError PySem.F.excBase_ValueError PySem.F.store_ValueError fm_NoField init_NoField ty_NoField lk_NoField hc_NoField code_NoField hv_NoField hf_NoField cell_NoField ic_NoField sub_NoField z_super z_tp z_top sup_NoField base_NoField exc_NoField sa_NoField ov_NoField hd_NoField (by
    intro f hf
    simp only [List.mem_cons, List.not_mem_nil, or_false] at hf
    rcases hf with rfl | rfl <;> assumption) exC_NoField tyC_NoField kC_NoField
  have er_BadValue : ErC l.prog K "BadValue.__init__" ["field"] C_BadValue := er_mk PySem.W.kxs_ValueError PySem.F.excBase_ValueError PySem.F.store_ValueError fm_BadValue init_BadValue ty_BadValue lk_BadValue hc_BadValue code_BadValue hv_BadValue hf_BadValue cell_BadValue ic_BadValue sub_BadValue z_super z_tp z_top sup_BadValue base_BadValue exc_BadValue sa_BadValue ov_BadValue hd_BadValue (by
    intro f hf
    simp only [List.mem_cons, List.not_mem_nil, or_false] at hf
    rcases hf with rfl <;> assumption) exC_BadValue tyC_BadValue kC_BadValue
  have er_NoThing : ErC l.prog K "NoThing.__init__" ["thing"] C_NoThing := er_mk PySem.W.kxs_ValueError PySem.F.excBase_ValueError PySem.F.store_ValueError fm_NoThing init_NoThing ty_NoThing lk_NoThing hc_NoThing code_NoThing hv_NoThing hf_NoThing cell_NoThing ic_NoThing sub_NoThing z_super z_tp z_top sup_NoThing base_NoThing exc_NoThing sa_NoThing ov_NoThing hd_NoThing (by
    intro f hf
    simp only [List.mem_cons, List.not_mem_nil, or_false] at hf
    rcases hf with rfl <;> assumption) exC_NoThing tyC_NoThing kC_NoThing
  have er_TooMany : ErC l.prog K "TooMany.__init__" ["what"] C_TooMany := er_mk PySem.W.kxs_ValueError PySem.F.excBase_ValueError PySem.F.store_ValueError fm_TooMany init_TooMany ty_TooMany lk_TooMany hc_TooMany code_TooMany hv_TooMany hf_TooMany cell_TooMany ic_TooMany sub_TooMany z_super z_tp z_top sup_TooMany base_TooMany exc_TooMany sa_TooMany ov_TooMany hd_TooMany (by
    intro f hf
    simp only [List.mem_cons, List.not_mem_nil, or_false] at hf
    rcases hf with rfl <;> assumption) exC_TooMany tyC_TooMany kC_TooMany
  have F_Graph_size := fun_mk (st := s_Graph_size) l_Graph_size c_Graph_size k_Graph_size
  have F_Graph_root := fun_mk (st := s_Graph_root) l_Graph_root c_Graph_root k_Graph_root
  have Kd_Graph_add : KwdV K (.ref kD_Graph_add) [("tag", .int 0)] := .inr ⟨kD_Graph_add, rfl, fun q hq => by
    simp only [List.mem_cons, List.not_mem_nil, or_false] at hq
    rcases hq with rfl
    · exact ⟨_, kw0_Graph_add, kr0_Graph_add⟩⟩
  have F_is_letters := fun_mk (st := s_is_letters) l_is_letters c_is_letters k_is_letters
  have F_is_kind_name := fun_mk (st := s_is_kind_name) l_is_kind_name c_is_kind_name k_is_kind_name
  have F_is_field_name := fun_mk (st := s_is_field_name) l_is_field_name c_is_field_name k_is_field_name
  have F_is_mode := fun_mk (st := s_is_mode) l_is_mode c_is_mode k_is_mode
  have F_is_field := fun_mk (st := s_is_field) l_is_field c_is_field k_is_field
  have F_is_bases := fun_mk (st := s_is_bases) l_is_bases c_is_bases k_is_bases
  have F_Kind_init := fun_mk (st := s_Kind_init) l_Kind_init c_Kind_init k_Kind_init
  have F_make_kind := fun_mk (st := s_make_kind) l_make_kind c_make_kind k_make_kind
  have F_Schema_init := fun_mk (st := s_Schema_init) l_Schema_init c_Schema_init k_Schema_init
  have F_Schema_getitem := fun_mk (st := s_Schema_getitem) l_Schema_getitem c_Schema_getitem k_Schema_getitem
  have F_is_integer := fun_mk (st := s_is_integer) l_is_integer c_is_integer k_is_integer
  have F_Schema_is_under := fun_mk (st := s_Schema_is_under) l_Schema_is_under c_Schema_is_under k_Schema_is_under
  have F_is_concrete := fun_mk (st := s_is_concrete) l_is_concrete c_is_concrete k_is_concrete
  have F_is_tag := fun_mk (st := s_is_tag) l_is_tag c_is_tag k_is_tag
  have F_is_member := fun_mk (st := s_is_member) l_is_member c_is_member k_is_member
  have F_is_value := fun_mk (st := s_is_value) l_is_value c_is_value k_is_value
  have F_kept_value := fun_mk (st := s_kept_value) l_kept_value c_kept_value k_kept_value
  have F_empty_value := fun_mk (st := s_empty_value) l_empty_value c_empty_value k_empty_value
  have F_numbers_in := fun_mk (st := s_numbers_in) l_numbers_in c_numbers_in k_numbers_in
  have F_Graph_init := fun_mk (st := s_Graph_init) l_Graph_init c_Graph_init k_Graph_init
  have F_Graph_append_thing := fun_mk (st := s_Graph_append_thing) l_Graph_append_thing c_Graph_append_thing k_Graph_append_thing
  have F_Graph_check_thing := fun_mk (st := s_Graph_check_thing) l_Graph_check_thing c_Graph_check_thing k_Graph_check_thing
  have F_Graph_len := fun_mk (st := s_Graph_len) l_Graph_len c_Graph_len k_Graph_len
  have F_Graph_row := fun_mk (st := s_Graph_row) l_Graph_row c_Graph_row k_Graph_row
  have F_Graph_all_rows := fun_mk (st := s_Graph_all_rows) l_Graph_all_rows c_Graph_all_rows k_Graph_all_rows
  have F_Schema_eq := fun_mk (st := s_Schema_eq) l_Schema_eq c_Schema_eq k_Schema_eq
  have F_l_pen := fun_mk (st := s_l_pen) l_l_pen c_l_pen k_l_pen
  have F_l_take := fun_mk (st := s_l_take) l_l_take c_l_take k_l_take
  have F_l_bit := fun_mk (st := s_l_bit) l_l_bit c_l_bit k_l_bit
  have F_l_letters := fun_mk (st := s_l_letters) l_l_letters c_l_letters k_l_letters
  have F_l_names := fun_mk (st := s_l_names) l_l_names c_l_names k_l_names
  have F_l_kind_names := fun_mk (st := s_l_kind_names) l_l_kind_names c_l_kind_names k_l_kind_names
  have F_l_line := fun_mk (st := s_l_line) l_l_line c_l_line k_l_line
  have F_l_fields := fun_mk (st := s_l_fields) l_l_fields c_l_fields k_l_fields
  have F_l_concrete := fun_mk (st := s_l_concrete) l_l_concrete c_l_concrete k_l_concrete
  have F_l_under := fun_mk (st := s_l_under) l_l_under c_l_under k_l_under
  have F_l_tag := fun_mk (st := s_l_tag) l_l_tag c_l_tag k_l_tag
  have F_l_targets := fun_mk (st := s_l_targets) l_l_targets c_l_targets k_l_targets
  have F_l_value := fun_mk (st := s_l_value) l_l_value c_l_value k_l_value
  have F_l_copied := fun_mk (st := s_l_copied) l_l_copied c_l_copied k_l_copied
  have F_l_numbers := fun_mk (st := s_l_numbers) l_l_numbers c_l_numbers k_l_numbers
  have F_l_held := fun_mk (st := s_l_held) l_l_held c_l_held k_l_held
  have F_l_size := fun_mk (st := s_l_size) l_l_size c_l_size k_l_size
  have F_l_is_integer := fun_mk (st := s_l_is_integer) l_l_is_integer c_l_is_integer k_l_is_integer
  have F_l_shows := fun_mk (st := s_l_shows) l_l_shows c_l_shows k_l_shows
  have F_l_empty := fun_mk (st := s_l_empty) l_l_empty c_l_empty k_l_empty
  have F_l_family := fun_mk (st := s_l_family) l_l_family c_l_family k_l_family
  have F_l_added := fun_mk (st := s_l_added) l_l_added c_l_added k_l_added
  have F_l_one_more := fun_mk (st := s_l_one_more) l_l_one_more c_l_one_more k_l_one_more
  have F_law := fun_mk (st := s_law) l_law c_law k_law
  have T : Txt l.prog K mg { MODES := A_MODES, RESERVED := A_RESERVED, BadSchema := C_BadSchema, NoKind := C_NoKind, BadTag := C_BadTag, NoField := C_NoField, BadValue := C_BadValue, NoThing := C_NoThing, TooMany := C_TooMany, Kind := C_Kind, Schema := C_Schema, Graph := C_Graph, Graph_size := f_Graph_size, fd_Graph_size := PySem.W.fnOf "size" "Graph.size" (defArgs s_Graph_size) (defBody s_Graph_size) (defScope s_Graph_size) .none kV_Graph_size dc_Graph_size pm_Graph_size an_Graph_size cd_Graph_size ct_Graph_size, p_Graph_size := p_Graph_size, Graph_root := f_Graph_root, fd_Graph_root := PySem.W.fnOf "root" "Graph.root" (defArgs s_Graph_root) (defBody s_Graph_root) (defScope s_Graph_root) .none kV_Graph_root dc_Graph_root pm_Graph_root an_Graph_root cd_Graph_root ct_Graph_root, p_Graph_root := p_Graph_root, Graph_add := f_Graph_add, fd_Graph_add := PySem.W.fnOf "add" "Graph.add" (defArgs s_Graph_add) (defBody s_Graph_add) (defScope s_Graph_add) .none (.ref kD_Graph_add) dc_Graph_add pm_Graph_add an_Graph_add cd_Graph_add ct_Graph_add, is_letters := f_is_letters, fd_is_letters := PySem.W.fnOf "is_letters" "is_letters" (defArgs s_is_letters) (defBody s_is_letters) (defScope s_is_letters) .none kV_is_letters dc_is_letters pm_is_letters an_is_letters cd_is_letters ct_is_letters, is_kind_name := f_is_kind_name, fd_is_kind_name := PySem.W.fnOf "is_kind_name" "is_kind_name" (defArgs s_is_kind_name) (defBody s_is_kind_name) (defScope s_is_kind_name) .none kV_is_kind_name dc_is_kind_name pm_is_kind_name an_is_kind_name cd_is_kind_name ct_is_kind_name, is_field_name := f_is_field_name, fd_is_field_name := PySem.W.fnOf "is_field_name" "is_field_name" (defArgs s_is_field_name) (defBody s_is_field_name) (defScope s_is_field_name) .none kV_is_field_name dc_is_field_name pm_is_field_name an_is_field_name cd_is_field_name ct_is_field_name, is_mode := f_is_mode, fd_is_mode := PySem.W.fnOf "is_mode" "is_mode" (defArgs s_is_mode) (defBody s_is_mode) (defScope s_is_mode) .none kV_is_mode dc_is_mode pm_is_mode an_is_mode cd_is_mode ct_is_mode, is_field := f_is_field, fd_is_field := PySem.W.fnOf "is_field" "is_field" (defArgs s_is_field) (defBody s_is_field) (defScope s_is_field) .none kV_is_field dc_is_field pm_is_field an_is_field cd_is_field ct_is_field, is_bases := f_is_bases, fd_is_bases := PySem.W.fnOf "is_bases" "is_bases" (defArgs s_is_bases) (defBody s_is_bases) (defScope s_is_bases) .none kV_is_bases dc_is_bases pm_is_bases an_is_bases cd_is_bases ct_is_bases, Kind_init := f_Kind_init, fd_Kind_init := PySem.W.fnOf "__init__" "Kind.__init__" (defArgs s_Kind_init) (defBody s_Kind_init) (defScope s_Kind_init) .none kV_Kind_init dc_Kind_init pm_Kind_init an_Kind_init cd_Kind_init ct_Kind_init, make_kind := f_make_kind, fd_make_kind := PySem.W.fnOf "make_kind" "make_kind" (defArgs s_make_kind) (defBody s_make_kind) (defScope s_make_kind) .none kV_make_kind dc_make_kind pm_make_kind an_make_kind cd_make_kind ct_make_kind, Schema_init := f_Schema_init, fd_Schema_init := PySem.W.fnOf "__init__" "Schema.__init__" (defArgs s_Schema_init) (defBody s_Schema_init) (defScope s_Schema_init) .none kV_Schema_init dc_Schema_init pm_Schema_init an_Schema_init cd_Schema_init ct_Schema_init, Schema_getitem := f_Schema_getitem, fd_Schema_getitem := PySem.W.fnOf "__getitem__" "Schema.__getitem__" (defArgs s_Schema_getitem) (defBody s_Schema_getitem) (defScope s_Schema_getitem) .none kV_Schema_getitem dc_Schema_getitem pm_Schema_getitem an_Schema_getitem cd_Schema_getitem ct_Schema_getitem, is_integer := f_is_integer, fd_is_integer := PySem.W.fnOf "is_integer" "is_integer" (defArgs s_is_integer) (defBody s_is_integer) (defScope s_is_integer) .none kV_is_integer dc_is_integer pm_is_integer an_is_integer cd_is_integer ct_is_integer, Schema_is_under := f_Schema_is_under, fd_Schema_is_under := PySem.W.fnOf "is_under" "Schema.is_under" (defArgs s_Schema_is_under) (defBody s_Schema_is_under) (defScope s_Schema_is_under) .none kV_Schema_is_under dc_Schema_is_under pm_Schema_is_under an_Schema_is_under cd_Schema_is_under ct_Schema_is_under, is_concrete := f_is_concrete, fd_is_concrete := PySem.W.fnOf "is_concrete" "is_concrete" (defArgs s_is_concrete) (defBody s_is_concrete) (defScope s_is_concrete) .none kV_is_concrete dc_is_concrete pm_is_concrete an_is_concrete cd_is_concrete ct_is_concrete, is_tag := f_is_tag, fd_is_tag := PySem.W.fnOf "is_tag" "is_tag" (defArgs s_is_tag) (defBody s_is_tag) (defScope s_is_tag) .none kV_is_tag dc_is_tag pm_is_tag an_is_tag cd_is_tag ct_is_tag, is_member := f_is_member, fd_is_member := PySem.W.fnOf "is_member" "is_member" (defArgs s_is_member) (defBody s_is_member) (defScope s_is_member) .none kV_is_member dc_is_member pm_is_member an_is_member cd_is_member ct_is_member, is_value := f_is_value, fd_is_value := PySem.W.fnOf "is_value" "is_value" (defArgs s_is_value) (defBody s_is_value) (defScope s_is_value) .none kV_is_value dc_is_value pm_is_value an_is_value cd_is_value ct_is_value, kept_value := f_kept_value, fd_kept_value := PySem.W.fnOf "kept_value" "kept_value" (defArgs s_kept_value) (defBody s_kept_value) (defScope s_kept_value) .none kV_kept_value dc_kept_value pm_kept_value an_kept_value cd_kept_value ct_kept_value, empty_value := f_empty_value, fd_empty_value := PySem.W.fnOf "empty_value" "empty_value" (defArgs s_empty_value) (defBody s_empty_value) (defScope s_empty_value) .none kV_empty_value dc_empty_value pm_empty_value an_empty_value cd_empty_value ct_empty_value, numbers_in := f_numbers_in, fd_numbers_in := PySem.W.fnOf "numbers_in" "numbers_in" (defArgs s_numbers_in) (defBody s_numbers_in) (defScope s_numbers_in) .none kV_numbers_in dc_numbers_in pm_numbers_in an_numbers_in cd_numbers_in ct_numbers_in, Graph_init := f_Graph_init, fd_Graph_init := PySem.W.fnOf "__init__" "Graph.__init__" (defArgs s_Graph_init) (defBody s_Graph_init) (defScope s_Graph_init) .none kV_Graph_init dc_Graph_init pm_Graph_init an_Graph_init cd_Graph_init ct_Graph_init, Graph_append_thing := f_Graph_append_thing, fd_Graph_append_thing := PySem.W.fnOf "append_thing" "Graph.append_thing" (defArgs s_Graph_append_thing) (defBody s_Graph_append_thing) (defScope s_Graph_append_thing) .none kV_Graph_append_thing dc_Graph_append_thing pm_Graph_append_thing an_Graph_append_thing cd_Graph_append_thing ct_Graph_append_thing, Graph_check_thing := f_Graph_check_thing, fd_Graph_check_thing := PySem.W.fnOf "check_thing" "Graph.check_thing" (defArgs s_Graph_check_thing) (defBody s_Graph_check_thing) (defScope s_Graph_check_thing) .none kV_Graph_check_thing dc_Graph_check_thing pm_Graph_check_thing an_Graph_check_thing cd_Graph_check_thing ct_Graph_check_thing, Graph_len := f_Graph_len, fd_Graph_len := PySem.W.fnOf "__len__" "Graph.__len__" (defArgs s_Graph_len) (defBody s_Graph_len) (defScope s_Graph_len) .none kV_Graph_len dc_Graph_len pm_Graph_len an_Graph_len cd_Graph_len ct_Graph_len, Graph_row := f_Graph_row, fd_Graph_row := PySem.W.fnOf "row" "Graph.row" (defArgs s_Graph_row) (defBody s_Graph_row) (defScope s_Graph_row) .none kV_Graph_row dc_Graph_row pm_Graph_row an_Graph_row cd_Graph_row ct_Graph_row, Graph_all_rows := f_Graph_all_rows, fd_Graph_all_rows := PySem.W.fnOf "all_rows" "Graph.all_rows" (defArgs s_Graph_all_rows) (defBody s_Graph_all_rows) (defScope s_Graph_all_rows) .none kV_Graph_all_rows dc_Graph_all_rows pm_Graph_all_rows an_Graph_all_rows cd_Graph_all_rows ct_Graph_all_rows, Schema_eq := f_Schema_eq, fd_Schema_eq := PySem.W.fnOf "__eq__" "Schema.__eq__" (defArgs s_Schema_eq) (defBody s_Schema_eq) (defScope s_Schema_eq) .none kV_Schema_eq dc_Schema_eq pm_Schema_eq an_Schema_eq cd_Schema_eq ct_Schema_eq, l_pen := f_l_pen, fd_l_pen := PySem.W.fnOf "_law_pen" "_law_pen" (defArgs s_l_pen) (defBody s_l_pen) (defScope s_l_pen) .none kV_l_pen dc_l_pen pm_l_pen an_l_pen cd_l_pen ct_l_pen, l_take := f_l_take, fd_l_take := PySem.W.fnOf "_law_take" "_law_take" (defArgs s_l_take) (defBody s_l_take) (defScope s_l_take) .none kV_l_take dc_l_take pm_l_take an_l_take cd_l_take ct_l_take, l_bit := f_l_bit, fd_l_bit := PySem.W.fnOf "_law_bit" "_law_bit" (defArgs s_l_bit) (defBody s_l_bit) (defScope s_l_bit) .none kV_l_bit dc_l_bit pm_l_bit an_l_bit cd_l_bit ct_l_bit, l_letters := f_l_letters, fd_l_letters := PySem.W.fnOf "_law_letters" "_law_letters" (defArgs s_l_letters) (defBody s_l_letters) (defScope s_l_letters) .none kV_l_letters dc_l_letters pm_l_letters an_l_letters cd_l_letters ct_l_letters, l_names := f_l_names, fd_l_names := PySem.W.fnOf "_law_names" "_law_names" (defArgs s_l_names) (defBody s_l_names) (defScope s_l_names) .none kV_l_names dc_l_names pm_l_names an_l_names cd_l_names ct_l_names, l_kind_names := f_l_kind_names, fd_l_kind_names := PySem.W.fnOf "_law_kind_names" "_law_kind_names" (defArgs s_l_kind_names) (defBody s_l_kind_names) (defScope s_l_kind_names) .none kV_l_kind_names dc_l_kind_names pm_l_kind_names an_l_kind_names cd_l_kind_names ct_l_kind_names, l_line := f_l_line, fd_l_line := PySem.W.fnOf "_law_line" "_law_line" (defArgs s_l_line) (defBody s_l_line) (defScope s_l_line) .none kV_l_line dc_l_line pm_l_line an_l_line cd_l_line ct_l_line, l_fields := f_l_fields, fd_l_fields := PySem.W.fnOf "_law_fields" "_law_fields" (defArgs s_l_fields) (defBody s_l_fields) (defScope s_l_fields) .none kV_l_fields dc_l_fields pm_l_fields an_l_fields cd_l_fields ct_l_fields, l_concrete := f_l_concrete, fd_l_concrete := PySem.W.fnOf "_law_concrete" "_law_concrete" (defArgs s_l_concrete) (defBody s_l_concrete) (defScope s_l_concrete) .none kV_l_concrete dc_l_concrete pm_l_concrete an_l_concrete cd_l_concrete ct_l_concrete, l_under := f_l_under, fd_l_under := PySem.W.fnOf "_law_under" "_law_under" (defArgs s_l_under) (defBody s_l_under) (defScope s_l_under) .none kV_l_under dc_l_under pm_l_under an_l_under cd_l_under ct_l_under, l_tag := f_l_tag, fd_l_tag := PySem.W.fnOf "_law_tag" "_law_tag" (defArgs s_l_tag) (defBody s_l_tag) (defScope s_l_tag) .none kV_l_tag dc_l_tag pm_l_tag an_l_tag cd_l_tag ct_l_tag, l_targets := f_l_targets, fd_l_targets := PySem.W.fnOf "_law_targets" "_law_targets" (defArgs s_l_targets) (defBody s_l_targets) (defScope s_l_targets) .none kV_l_targets dc_l_targets pm_l_targets an_l_targets cd_l_targets ct_l_targets, l_value := f_l_value, fd_l_value := PySem.W.fnOf "_law_value" "_law_value" (defArgs s_l_value) (defBody s_l_value) (defScope s_l_value) .none kV_l_value dc_l_value pm_l_value an_l_value cd_l_value ct_l_value, l_copied := f_l_copied, fd_l_copied := PySem.W.fnOf "_law_copied" "_law_copied" (defArgs s_l_copied) (defBody s_l_copied) (defScope s_l_copied) .none kV_l_copied dc_l_copied pm_l_copied an_l_copied cd_l_copied ct_l_copied, l_numbers := f_l_numbers, fd_l_numbers := PySem.W.fnOf "_law_numbers" "_law_numbers" (defArgs s_l_numbers) (defBody s_l_numbers) (defScope s_l_numbers) .none kV_l_numbers dc_l_numbers pm_l_numbers an_l_numbers cd_l_numbers ct_l_numbers, l_held := f_l_held, fd_l_held := PySem.W.fnOf "_law_held" "_law_held" (defArgs s_l_held) (defBody s_l_held) (defScope s_l_held) .none kV_l_held dc_l_held pm_l_held an_l_held cd_l_held ct_l_held, l_size := f_l_size, fd_l_size := PySem.W.fnOf "_law_size" "_law_size" (defArgs s_l_size) (defBody s_l_size) (defScope s_l_size) .none kV_l_size dc_l_size pm_l_size an_l_size cd_l_size ct_l_size, l_is_integer := f_l_is_integer, fd_l_is_integer := PySem.W.fnOf "_law_is_integer" "_law_is_integer" (defArgs s_l_is_integer) (defBody s_l_is_integer) (defScope s_l_is_integer) .none kV_l_is_integer dc_l_is_integer pm_l_is_integer an_l_is_integer cd_l_is_integer ct_l_is_integer, l_shows := f_l_shows, fd_l_shows := PySem.W.fnOf "_law_shows" "_law_shows" (defArgs s_l_shows) (defBody s_l_shows) (defScope s_l_shows) .none kV_l_shows dc_l_shows pm_l_shows an_l_shows cd_l_shows ct_l_shows, l_empty := f_l_empty, fd_l_empty := PySem.W.fnOf "_law_empty" "_law_empty" (defArgs s_l_empty) (defBody s_l_empty) (defScope s_l_empty) .none kV_l_empty dc_l_empty pm_l_empty an_l_empty cd_l_empty ct_l_empty, l_family := f_l_family, fd_l_family := PySem.W.fnOf "_law_family" "_law_family" (defArgs s_l_family) (defBody s_l_family) (defScope s_l_family) .none kV_l_family dc_l_family pm_l_family an_l_family cd_l_family ct_l_family, l_added := f_l_added, fd_l_added := PySem.W.fnOf "_law_added" "_law_added" (defArgs s_l_added) (defBody s_l_added) (defScope s_l_added) .none kV_l_added dc_l_added pm_l_added an_l_added cd_l_added ct_l_added, l_one_more := f_l_one_more, fd_l_one_more := PySem.W.fnOf "_law_one_more" "_law_one_more" (defArgs s_l_one_more) (defBody s_l_one_more) (defScope s_l_one_more) .none kV_l_one_more dc_l_one_more pm_l_one_more an_l_one_more cd_l_one_more ct_l_one_more, law := fa, fd_law := PySem.W.fnOf "law" "law" (defArgs s_law) (defBody s_law) (defScope s_law) .none kV_law dc_law pm_law an_law cd_law ct_law } := {
    n_len := PySem.W.mg_none_of X G z_len,
    n_int := PySem.W.mg_none_of X G z_int,
    n_list := PySem.W.mg_none_of X G z_list,
    n_range := PySem.W.mg_none_of X G z_range,
    n_isinstance := PySem.W.mg_none_of X G z_isinstance,
    n_str := PySem.W.mg_none_of X G z_str,
    n_tuple := PySem.W.mg_none_of X G z_tuple,
    n_set := PySem.W.mg_none_of X G z_set,
    n_enumerate := PySem.W.mg_none_of X G z_enumerate,
    n_reversed := PySem.W.mg_none_of X G z_reversed,
    n_all := PySem.W.mg_none_of X G z_all,
    n_repr := PySem.W.mg_none_of X G z_repr,
    n_bool := PySem.W.mg_none_of X G z_bool,
    c_MODES := sqt_mk lt_MODES ls_MODES lv_MODES,
    g_MODES := PySem.W.mg_of X G aG_MODES,
    c_RESERVED := sqt_mk lt_RESERVED ls_RESERVED lv_RESERVED,
    g_RESERVED := PySem.W.mg_of X G aG_RESERVED,
    u_CAPITALS := ⟨u_CAPITALS, PySem.W.mg_of X G aG_CAPITALS, rG_CAPITALS⟩,
    u_LETTERS := ⟨u_LETTERS, PySem.W.mg_of X G aG_LETTERS, rG_LETTERS⟩,
    u_MOST_BASES := ⟨u_MOST_BASES, PySem.W.mg_of X G aG_MOST_BASES, rG_MOST_BASES⟩,
    g_BadSchema := PySem.W.mg_of X G aC_BadSchema,
    er_BadSchema := er_BadSchema,
    te_BadSchema := exm_self exC_BadSchema ic_BadSchema tyC_BadSchema su_BadSchema,
    xf_BadSchema := ⟨ga_BadSchema, gg_BadSchema, exC_BadSchema, hd_BadSchema⟩,
    no_BadSchema_at := no_BadSchema_at,
    g_NoKind := PySem.W.mg_of X G aC_NoKind,
    er_NoKind := er_NoKind,
    te_NoKind := exm_self exC_NoKind ic_NoKind tyC_NoKind su_NoKind,
    xf_NoKind := ⟨ga_NoKind, gg_NoKind, exC_NoKind, hd_NoKind⟩,
    no_NoKind_kind := no_NoKind_kind,
    g_BadTag := PySem.W.mg_of X G aC_BadTag,
    er_BadTag := er_BadTag,
    te_BadTag := exm_self exC_BadTag ic_BadTag tyC_BadTag su_BadTag,
    xf_BadTag := ⟨ga_BadTag, gg_BadTag, exC_BadTag, hd_BadTag⟩,
    no_BadTag_tag := no_BadTag_tag,
    g_NoField := PySem.W.mg_of X G aC_NoField,
    er_NoField := er_NoField,
    te_NoField := exm_self exC_NoField ic_NoField tyC_NoField su_NoField,
    xf_NoField := ⟨ga_NoField, gg_NoField, exC_NoField, hd_NoField⟩,
    no_NoField_kind := no_NoField_kind,
    no_NoField_field := no_NoField_field,
    g_BadValue := PySem.W.mg_of X G aC_BadValue,
    er_BadValue := er_BadValue,
    te_BadValue := exm_self exC_BadValue ic_BadValue tyC_BadValue su_BadValue,
    xf_BadValue := ⟨ga_BadValue, gg_BadValue, exC_BadValue, hd_BadValue⟩,
    no_BadValue_field := no_BadValue_field,
    g_NoThing := PySem.W.mg_of X G aC_NoThing,
    er_NoThing := er_NoThing,
    te_NoThing := exm_self exC_NoThing ic_NoThing tyC_NoThing su_NoThing,
    xf_NoThing := ⟨ga_NoThing, gg_NoThing, exC_NoThing, hd_NoThing⟩,
    no_NoThing_thing := no_NoThing_thing,
    g_TooMany := PySem.W.mg_of X G aC_TooMany,
    er_TooMany := er_TooMany,
    te_TooMany := exm_self exC_TooMany ic_TooMany tyC_TooMany su_TooMany,
    xf_TooMany := ⟨ga_TooMany, gg_TooMany, exC_TooMany, hd_TooMany⟩,
    no_TooMany_what := no_TooMany_what,
    g_Kind := PySem.W.mg_of X G aC_Kind,
    ow_Kind := own_mk pg_Kind hd_Kind po_Kind sa_Kind ha_Kind hn_Kind ht_Kind hm_Kind k1_Kind b1_Kind b2_Kind b3_Kind b4_Kind b5_Kind b6_Kind b7_Kind,
    no_Kind_name := no_Kind_name,
    no_Kind_bases := no_Kind_bases,
    no_Kind_is_abstract := no_Kind_is_abstract,
    no_Kind_own := no_Kind_own,
    no_Kind_line := no_Kind_line,
    no_Kind_fields := no_Kind_fields,
    g_Schema := PySem.W.mg_of X G aC_Schema,
    ow_Schema := own_mk pg_Schema hd_Schema po_Schema sa_Schema ha_Schema hn_Schema ht_Schema hm_Schema k1_Schema b1_Schema b2_Schema b3_Schema b4_Schema b5_Schema b6_Schema b7_Schema,
    no_Schema_rows := no_Schema_rows,
    no_Schema_names := no_Schema_names,
    no_Schema_known := no_Schema_known,
    nf_Schema := nf_mk nf1_Schema nf2_Schema nf3_Schema nf4_Schema nf5_Schema nf6_Schema nf7_Schema,
    nfo_Schema := nfo_Schema,
    cr_Schema_MOST := ⟨.type "type", cu_Schema_MOST, ⟨cr1_Schema, cr2_Schema⟩, ⟨cr3_Schema_MOST, cr4_Schema_MOST⟩⟩,
    cr_Schema_FIELDS := ⟨.type "type", cu_Schema_FIELDS, ⟨cr1_Schema, cr2_Schema⟩, ⟨cr3_Schema_FIELDS, cr4_Schema_FIELDS⟩⟩,
    n_dict := PySem.W.mg_none_of X G z_dict,
    n_sorted := PySem.W.mg_none_of X G z_sorted,
    u_MOST_TAG := ⟨u_MOST_TAG, PySem.W.mg_of X G aG_MOST_TAG, rG_MOST_TAG⟩,
    g_Graph := PySem.W.mg_of X G aC_Graph,
    ow_Graph := own_mk pg_Graph hd_Graph po_Graph sa_Graph ha_Graph hn_Graph ht_Graph hm_Graph k1_Graph b1_Graph b2_Graph b3_Graph b4_Graph b5_Graph b6_Graph b7_Graph,
    no_Graph_schema := no_Graph_schema,
    no_Graph_things := no_Graph_things,
    no_Graph_root_thing := no_Graph_root_thing,
    no_Graph_held := no_Graph_held,
    nf_Graph := nf_mk nf1_Graph nf2_Graph nf3_Graph nf4_Graph nf5_Graph nf6_Graph nf7_Graph,
    nfo_Graph := nfo_Graph,
    cr_Graph_THINGS := ⟨.type "type", cu_Graph_THINGS, ⟨cr1_Graph, cr2_Graph⟩, ⟨cr3_Graph_THINGS, cr4_Graph_THINGS⟩⟩,
    cr_Graph_REFERENCES := ⟨.type "type", cu_Graph_REFERENCES, ⟨cr1_Graph, cr2_Graph⟩, ⟨cr3_Graph_REFERENCES, cr4_Graph_REFERENCES⟩⟩,
    F_Graph_size := F_Graph_size,
    b_Graph_size := F_Graph_size.binds (ps := ["self"]) fun _ _ _ _ _ _ us hl => match us, hl with | [_], _ => rfl,
    pp_Graph_size := ⟨a_Graph_size, pg_Graph_size, pt_Graph_size, ⟨_, pr_Graph_size⟩⟩,
    F_Graph_root := F_Graph_root,
    b_Graph_root := F_Graph_root.binds (ps := ["self"]) fun _ _ _ _ _ _ us hl => match us, hl with | [_], _ => rfl,
    pp_Graph_root := ⟨a_Graph_root, pg_Graph_root, pt_Graph_root, ⟨_, pr_Graph_root⟩⟩,
    F_Graph_add := ⟨⟨_, _, _, _, _, _, _, _, _, _, rfl, l_Graph_add, c_Graph_add, (.inl ⟨rfl, rfl⟩), Kd_Graph_add⟩, k_Graph_add⟩,
    me_Graph_add := ⟨a_Graph_add, i_Graph_add, k_Graph_add⟩,
    g_is_letters := PySem.W.mg_of X G a_is_letters,
    F_is_letters := F_is_letters,
    b_is_letters := F_is_letters.binds (ps := ["text"]) fun _ _ _ _ _ _ us hl => match us, hl with | [_], _ => rfl,
    g_is_kind_name := PySem.W.mg_of X G a_is_kind_name,
    F_is_kind_name := F_is_kind_name,
    b_is_kind_name := F_is_kind_name.binds (ps := ["thing"]) fun _ _ _ _ _ _ us hl => match us, hl with | [_], _ => rfl,
    g_is_field_name := PySem.W.mg_of X G a_is_field_name,
    F_is_field_name := F_is_field_name,
    b_is_field_name := F_is_field_name.binds (ps := ["thing"]) fun _ _ _ _ _ _ us hl => match us, hl with | [_], _ => rfl,
    g_is_mode := PySem.W.mg_of X G a_is_mode,
    F_is_mode := F_is_mode,
    b_is_mode := F_is_mode.binds (ps := ["thing"]) fun _ _ _ _ _ _ us hl => match us, hl with | [_], _ => rfl,
    g_is_field := PySem.W.mg_of X G a_is_field,
    F_is_field := F_is_field,
    b_is_field := F_is_field.binds (ps := ["thing", "targets"]) fun _ _ _ _ _ _ us hl => match us, hl with | [_, _], _ => rfl,
    g_is_bases := PySem.W.mg_of X G a_is_bases,
    F_is_bases := F_is_bases,
    b_is_bases := F_is_bases.binds (ps := ["thing", "names"]) fun _ _ _ _ _ _ us hl => match us, hl with | [_, _], _ => rfl,
    F_Kind_init := F_Kind_init,
    b_Kind_init := F_Kind_init.binds (ps := ["self", "row", "known"]) fun _ _ _ _ _ _ us hl => match us, hl with | [_, _, _], _ => rfl,
    me_Kind_init := ⟨a_Kind_init, i_Kind_init, k_Kind_init⟩,
    g_make_kind := PySem.W.mg_of X G a_make_kind,
    F_make_kind := F_make_kind,
    b_make_kind := F_make_kind.binds (ps := ["row", "known", "targets"]) fun _ _ _ _ _ _ us hl => match us, hl with | [_, _, _], _ => rfl,
    F_Schema_init := F_Schema_init,
    b_Schema_init := F_Schema_init.binds (ps := ["self", "rows"]) fun _ _ _ _ _ _ us hl => match us, hl with | [_, _], _ => rfl,
    me_Schema_init := ⟨a_Schema_init, i_Schema_init, k_Schema_init⟩,
    F_Schema_getitem := F_Schema_getitem,
    b_Schema_getitem := F_Schema_getitem.binds (ps := ["self", "name"]) fun _ _ _ _ _ _ us hl => match us, hl with | [_, _], _ => rfl,
    me_Schema_getitem := ⟨a_Schema_getitem, i_Schema_getitem, k_Schema_getitem⟩,
    g_is_integer := PySem.W.mg_of X G a_is_integer,
    F_is_integer := F_is_integer,
    b_is_integer := F_is_integer.binds (ps := ["thing"]) fun _ _ _ _ _ _ us hl => match us, hl with | [_], _ => rfl,
    F_Schema_is_under := F_Schema_is_under,
    b_Schema_is_under := F_Schema_is_under.binds (ps := ["self", "name", "other"]) fun _ _ _ _ _ _ us hl => match us, hl with | [_, _, _], _ => rfl,
    me_Schema_is_under := ⟨a_Schema_is_under, i_Schema_is_under, k_Schema_is_under⟩,
    g_is_concrete := PySem.W.mg_of X G a_is_concrete,
    F_is_concrete := F_is_concrete,
    b_is_concrete := F_is_concrete.binds (ps := ["schema", "thing"]) fun _ _ _ _ _ _ us hl => match us, hl with | [_, _], _ => rfl,
    g_is_tag := PySem.W.mg_of X G a_is_tag,
    F_is_tag := F_is_tag,
    b_is_tag := F_is_tag.binds (ps := ["thing"]) fun _ _ _ _ _ _ us hl => match us, hl with | [_], _ => rfl,
    g_is_member := PySem.W.mg_of X G a_is_member,
    F_is_member := F_is_member,
    b_is_member := F_is_member.binds (ps := ["schema", "kinds", "target", "number"]) fun _ _ _ _ _ _ us hl => match us, hl with | [_, _, _, _], _ => rfl,
    g_is_value := PySem.W.mg_of X G a_is_value,
    F_is_value := F_is_value,
    b_is_value := F_is_value.binds (ps := ["schema", "kinds", "mode", "target", "value"]) fun _ _ _ _ _ _ us hl => match us, hl with | [_, _, _, _, _], _ => rfl,
    g_kept_value := PySem.W.mg_of X G a_kept_value,
    F_kept_value := F_kept_value,
    b_kept_value := F_kept_value.binds (ps := ["mode", "value"]) fun _ _ _ _ _ _ us hl => match us, hl with | [_, _], _ => rfl,
    g_empty_value := PySem.W.mg_of X G a_empty_value,
    F_empty_value := F_empty_value,
    b_empty_value := F_empty_value.binds (ps := ["mode"]) fun _ _ _ _ _ _ us hl => match us, hl with | [_], _ => rfl,
    g_numbers_in := PySem.W.mg_of X G a_numbers_in,
    F_numbers_in := F_numbers_in,
    b_numbers_in := F_numbers_in.binds (ps := ["value"]) fun _ _ _ _ _ _ us hl => match us, hl with | [_], _ => rfl,
    F_Graph_init := F_Graph_init,
    b_Graph_init := F_Graph_init.binds (ps := ["self", "schema"]) fun _ _ _ _ _ _ us hl => match us, hl with | [_, _], _ => rfl,
    me_Graph_init := ⟨a_Graph_init, i_Graph_init, k_Graph_init⟩,
    F_Graph_append_thing := F_Graph_append_thing,
    b_Graph_append_thing := F_Graph_append_thing.binds (ps := ["self", "kind", "tag", "fields"]) fun _ _ _ _ _ _ us hl => match us, hl with | [_, _, _, _], _ => rfl,
    me_Graph_append_thing := ⟨a_Graph_append_thing, i_Graph_append_thing, k_Graph_append_thing⟩,
    F_Graph_check_thing := F_Graph_check_thing,
    b_Graph_check_thing := F_Graph_check_thing.binds (ps := ["self", "thing"]) fun _ _ _ _ _ _ us hl => match us, hl with | [_, _], _ => rfl,
    me_Graph_check_thing := ⟨a_Graph_check_thing, i_Graph_check_thing, k_Graph_check_thing⟩,
    F_Graph_len := F_Graph_len,
    b_Graph_len := F_Graph_len.binds (ps := ["self"]) fun _ _ _ _ _ _ us hl => match us, hl with | [_], _ => rfl,
    me_Graph_len := ⟨a_Graph_len, i_Graph_len, k_Graph_len⟩,
    F_Graph_row := F_Graph_row,
    b_Graph_row := F_Graph_row.binds (ps := ["self", "thing"]) fun _ _ _ _ _ _ us hl => match us, hl with | [_, _], _ => rfl,
    me_Graph_row := ⟨a_Graph_row, i_Graph_row, k_Graph_row⟩,
    F_Graph_all_rows := F_Graph_all_rows,
    b_Graph_all_rows := F_Graph_all_rows.binds (ps := ["self"]) fun _ _ _ _ _ _ us hl => match us, hl with | [_], _ => rfl,
    me_Graph_all_rows := ⟨a_Graph_all_rows, i_Graph_all_rows, k_Graph_all_rows⟩,
    F_Schema_eq := F_Schema_eq,
    b_Schema_eq := F_Schema_eq.binds (ps := ["self", "other"]) fun _ _ _ _ _ _ us hl => match us, hl with | [_, _], _ => rfl,
    me_Schema_eq := ⟨a_Schema_eq, i_Schema_eq, k_Schema_eq⟩,
    g_l_pen := PySem.W.mg_of X G a_l_pen,
    F_l_pen := F_l_pen,
    b_l_pen := F_l_pen.binds (ps := ["_law_script"]) fun _ _ _ _ _ _ us hl => match us, hl with | [_], _ => rfl,
    g_l_take := PySem.W.mg_of X G a_l_take,
    F_l_take := F_l_take,
    b_l_take := F_l_take.binds (ps := ["_law_pen_here", "_law_bound"]) fun _ _ _ _ _ _ us hl => match us, hl with | [_, _], _ => rfl,
    g_l_bit := PySem.W.mg_of X G a_l_bit,
    F_l_bit := F_l_bit,
    b_l_bit := F_l_bit.binds (ps := ["_law_pen_here", "_law_bound"]) fun _ _ _ _ _ _ us hl => match us, hl with | [_, _], _ => rfl,
    g_l_letters := PySem.W.mg_of X G a_l_letters,
    F_l_letters := F_l_letters,
    b_l_letters := F_l_letters.binds (ps := ["_law_pen_here", "_law_place", "_law_index", "_law_offset", "_law_plain"]) fun _ _ _ _ _ _ us hl => match us, hl with | [_, _, _, _, _], _ => rfl,
    g_l_names := PySem.W.mg_of X G a_l_names,
    F_l_names := F_l_names,
    b_l_names := F_l_names.binds (ps := ["_law_pen_here", "_law_count"]) fun _ _ _ _ _ _ us hl => match us, hl with | [_, _], _ => rfl,
    g_l_kind_names := PySem.W.mg_of X G a_l_kind_names,
    F_l_kind_names := F_l_kind_names,
    b_l_kind_names := F_l_kind_names.binds (ps := ["_law_pen_here", "_law_count"]) fun _ _ _ _ _ _ us hl => match us, hl with | [_, _], _ => rfl,
    g_l_line := PySem.W.mg_of X G a_l_line,
    F_l_line := F_l_line,
    b_l_line := F_l_line.binds (ps := ["_law_rows", "_law_name"]) fun _ _ _ _ _ _ us hl => match us, hl with | [_, _], _ => rfl,
    g_l_fields := PySem.W.mg_of X G a_l_fields,
    F_l_fields := F_l_fields,
    b_l_fields := F_l_fields.binds (ps := ["_law_rows", "_law_name"]) fun _ _ _ _ _ _ us hl => match us, hl with | [_, _], _ => rfl,
    g_l_concrete := PySem.W.mg_of X G a_l_concrete,
    F_l_concrete := F_l_concrete,
    b_l_concrete := F_l_concrete.binds (ps := ["_law_rows"]) fun _ _ _ _ _ _ us hl => match us, hl with | [_], _ => rfl,
    g_l_under := PySem.W.mg_of X G a_l_under,
    F_l_under := F_l_under,
    b_l_under := F_l_under.binds (ps := ["_law_rows", "_law_name"]) fun _ _ _ _ _ _ us hl => match us, hl with | [_, _], _ => rfl,
    g_l_tag := PySem.W.mg_of X G a_l_tag,
    F_l_tag := F_l_tag,
    b_l_tag := F_l_tag.binds (ps := ["_law_pen_here"]) fun _ _ _ _ _ _ us hl => match us, hl with | [_], _ => rfl,
    g_l_targets := PySem.W.mg_of X G a_l_targets,
    F_l_targets := F_l_targets,
    b_l_targets := F_l_targets.binds (ps := ["_law_rows", "_law_kinds", "_law_target"]) fun _ _ _ _ _ _ us hl => match us, hl with | [_, _, _], _ => rfl,
    g_l_value := PySem.W.mg_of X G a_l_value,
    F_l_value := F_l_value,
    b_l_value := F_l_value.binds (ps := ["_law_pen_here", "_law_rows", "_law_kinds", "_law_mode", "_law_target", "_law_cap"]) fun _ _ _ _ _ _ us hl => match us, hl with | [_, _, _, _, _, _], _ => rfl,
    g_l_copied := PySem.W.mg_of X G a_l_copied,
    F_l_copied := F_l_copied,
    b_l_copied := F_l_copied.binds (ps := ["_law_value_here"]) fun _ _ _ _ _ _ us hl => match us, hl with | [_], _ => rfl,
    g_l_numbers := PySem.W.mg_of X G a_l_numbers,
    F_l_numbers := F_l_numbers,
    b_l_numbers := F_l_numbers.binds (ps := ["_law_value_here"]) fun _ _ _ _ _ _ us hl => match us, hl with | [_], _ => rfl,
    g_l_held := PySem.W.mg_of X G a_l_held,
    F_l_held := F_l_held,
    b_l_held := F_l_held.binds (ps := ["_law_rows", "_law_row"]) fun _ _ _ _ _ _ us hl => match us, hl with | [_, _], _ => rfl,
    g_l_size := PySem.W.mg_of X G a_l_size,
    F_l_size := F_l_size,
    b_l_size := F_l_size.binds (ps := ["_law_rows", "_law_things"]) fun _ _ _ _ _ _ us hl => match us, hl with | [_, _], _ => rfl,
    g_l_is_integer := PySem.W.mg_of X G a_l_is_integer,
    F_l_is_integer := F_l_is_integer,
    b_l_is_integer := F_l_is_integer.binds (ps := ["_law_thing"]) fun _ _ _ _ _ _ us hl => match us, hl with | [_], _ => rfl,
    g_l_shows := PySem.W.mg_of X G a_l_shows,
    F_l_shows := F_l_shows,
    b_l_shows := F_l_shows.binds (ps := ["_law_graph", "_law_rows", "_law_things", "_law_root_due"]) fun _ _ _ _ _ _ us hl => match us, hl with | [_, _, _, _], _ => rfl,
    g_l_empty := PySem.W.mg_of X G a_l_empty,
    F_l_empty := F_l_empty,
    b_l_empty := F_l_empty.binds (ps := ["_law_mode"]) fun _ _ _ _ _ _ us hl => match us, hl with | [_], _ => rfl,
    g_l_family := PySem.W.mg_of X G a_l_family,
    F_l_family := F_l_family,
    b_l_family := F_l_family.binds (ps := ["_law_pen_here"]) fun _ _ _ _ _ _ us hl => match us, hl with | [_], _ => rfl,
    g_l_added := PySem.W.mg_of X G a_l_added,
    F_l_added := F_l_added,
    b_l_added := F_l_added.binds (ps := ["_law_graph", "_law_way", "_law_kind", "_law_number", "_law_first", "_law_second"]) fun _ _ _ _ _ _ us hl => match us, hl with | [_, _, _, _, _, _], _ => rfl,
    g_l_one_more := PySem.W.mg_of X G a_l_one_more,
    F_l_one_more := F_l_one_more,
    b_l_one_more := F_l_one_more.binds (ps := ["_law_pen_here", "_law_rows", "_law_graph", "_law_things"]) fun _ _ _ _ _ _ us hl => match us, hl with | [_, _, _, _], _ => rfl,
    F_law := F_law,
    mk_Kind := ⟨mk_Kind, a_Kind_init, i_Kind_init, kc_Kind⟩,
    mk_Schema := ⟨mk_Schema, a_Schema_init, i_Schema_init, kc_Schema⟩,
    mk_Graph := ⟨mk_Graph, a_Graph_init, i_Graph_init, kc_Graph⟩ }
  exact ⟨PySem.W.fnOf "law" "law" (defArgs s_law) (defBody s_law) (defScope s_law) .none kV_law dc_law pm_law an_law cd_law ct_law, fun s v => .of_eq rfl, fun base _ _ => ok_law T⟩
theorem walk {l : PySem.W.OpenLaw} {q : Program} {loose : List Str} {XP : (Str → Option Value) → Heap → Prop} {YP : World → Heap → Prop} {d : DefRec} {K : Params → PySem.W.Frag} (hn : l.most = some 63) (hdf : d.params.defaults = [])
    (hY : ∀ (w : World) (h : Heap), YP w h → (K w.params).In h)
    (F : ∀ (w : World) (mg : Str → Option Value) (fa : Addr) (h : Heap), (K w.params).In h → h.Ns mainGlobals mg → mg d.name = some (.ref fa) →
      ∃ fd : FuncData, (∀ (s : Shared) (u : Value), BindsTo s fd ⟨[u], []⟩ [("_law_script", u)]) ∧ ∀ base : Heap, (K w.params).In base → base.Ns mainGlobals mg → FnOk l.prog w (K w.params) mg base (L2.CX l.prog w) 12 fa fd ["_law_script"] (spLaw (K w.params))) :
    PySem.W.WalkO q loose XP YP l.row.toRowW d [] (fun f vs => PySem.call f vs) :=
  L2.walk_of (n := 63) (k := 12) (x := "_law_script") (CX := fun w => L2.CX l.prog w) (sp := fun w => spLaw (K w.params)) hn (by decide) hdf ⟨rfl, by decide, by decide⟩ hY F (fun _ _ a ns hl _ hS => ⟨a, ns, rfl, hS, fun _ => rfl⟩) fun _ _ _ _ _ z => cx_none z
end Wm

open PySem PySem.W PyProof.Rows in
set_option maxRecDepth 100000 in
set_option maxHeartbeats 0 in
theorem PySem.Challenge.cw_walkmarks_k08_things_added_holds : PySem.Challenge.rw_walkmarks_k08_things_added.Holds := by
  refine PySem.Challenge.top_walkmarks_k08_things_added ?_
  k_fill
  refine Wm.walk (l := PySem.Challenge.rw_walkmarks_k08_things_added) rfl rfl (fun w h Y => PySem.W.kIn_of Y) ?F
  case F =>
    intro w mg fa h KX G hmg
    refine' Wm.all_mk KX G hmg ?z_len ?z_int ?z_list ?z_range ?z_isinstance ?z_str ?z_tuple ?z_set ?z_enumerate ?z_reversed ?z_all ?z_repr ?z_bool ?aG_MODES ?lt_MODES ?ls_MODES ?lv_MODES ?aG_RESERVED ?lt_RESERVED ?ls_RESERVED ?lv_RESERVED ?aG_CAPITALS ?rG_CAPITALS ?aG_LETTERS ?rG_LETTERS ?aG_MOST_BASES ?rG_MOST_BASES ?aC_BadSchema ?init_BadSchema ?ty_BadSchema ?lk_BadSchema ?hc_BadSchema ?code_BadSchema ?hv_BadSchema ?hf_BadSchema ?cell_BadSchema ?ic_BadSchema ?sub_BadSchema ?z_super ?z_tp ?z_top ?sup_BadSchema ?base_BadSchema ?exc_BadSchema ?sa_BadSchema ?ov_BadSchema ?hd_BadSchema ?no_BadSchema_at ?exC_BadSchema ?tyC_BadSchema ?kC_BadSchema ?su_BadSchema ?ga_BadSchema ?gg_BadSchema ?aC_NoKind ?init_NoKind ?ty_NoKind ?lk_NoKind ?hc_NoKind ?code_NoKind ?hv_NoKind ?hf_NoKind ?cell_NoKind ?ic_NoKind ?sub_NoKind ?sup_NoKind ?base_NoKind ?exc_NoKind ?sa_NoKind ?ov_NoKind ?hd_NoKind ?no_NoKind_kind ?exC_NoKind ?tyC_NoKind ?kC_NoKind ?su_NoKind ?ga_NoKind ?gg_NoKind ?aC_BadTag ?init_BadTag ?ty_BadTag ?lk_BadTag ?hc_BadTag ?code_BadTag ?hv_BadTag ?hf_BadTag ?cell_BadTag ?ic_BadTag ?sub_BadTag ?sup_BadTag ?base_BadTag ?exc_BadTag ?sa_BadTag ?ov_BadTag ?hd_BadTag ?no_BadTag_tag ?exC_BadTag ?tyC_BadTag ?kC_BadTag ?su_BadTag ?ga_BadTag ?gg_BadTag ?aC_NoField ?init_NoField ?ty_NoField ?lk_NoField ?hc_NoField ?code_NoField ?hv_NoField ?hf_NoField ?cell_NoField ?ic_NoField ?sub_NoField ?sup_NoField ?base_NoField ?exc_NoField ?sa_NoField ?ov_NoField ?hd_NoField ?no_NoField_kind ?no_NoField_field ?exC_NoField ?tyC_NoField ?kC_NoField ?su_NoField ?ga_NoField ?gg_NoField ?aC_BadValue ?init_BadValue ?ty_BadValue ?lk_BadValue ?hc_BadValue ?code_BadValue ?hv_BadValue ?hf_BadValue ?cell_BadValue ?ic_BadValue ?sub_BadValue ?sup_BadValue ?base_BadValue ?exc_BadValue ?sa_BadValue ?ov_BadValue ?hd_BadValue ?no_BadValue_field ?exC_BadValue ?tyC_BadValue ?kC_BadValue ?su_BadValue ?ga_BadValue ?gg_BadValue ?aC_NoThing ?init_NoThing ?ty_NoThing ?lk_NoThing ?hc_NoThing ?code_NoThing ?hv_NoThing ?hf_NoThing ?cell_NoThing ?ic_NoThing ?sub_NoThing ?sup_NoThing ?base_NoThing ?exc_NoThing ?sa_NoThing ?ov_NoThing ?hd_NoThing ?no_NoThing_thing ?exC_NoThing ?tyC_NoThing ?kC_NoThing ?su_NoThing ?ga_NoThing ?gg_NoThing ?aC_TooMany ?init_TooMany ?ty_TooMany ?lk_TooMany ?hc_TooMany ?code_TooMany ?hv_TooMany ?hf_TooMany ?cell_TooMany ?ic_TooMany ?sub_TooMany ?sup_TooMany ?base_TooMany ?exc_TooMany ?sa_TooMany ?ov_TooMany ?hd_TooMany ?no_TooMany_what ?exC_TooMany ?tyC_TooMany ?kC_TooMany ?su_TooMany ?ga_TooMany ?gg_TooMany ?aC_Kind ?pg_Kind ?hd_Kind ?po_Kind ?sa_Kind ?ha_Kind ?hn_Kind ?ht_Kind ?hm_Kind ?k1_Kind ?b1_Kind ?b2_Kind ?b3_Kind ?b4_Kind ?b5_Kind ?b6_Kind ?b7_Kind ?no_Kind_name ?no_Kind_bases ?no_Kind_is_abstract ?no_Kind_own ?no_Kind_line ?no_Kind_fields ?mk_Kind ?kc_Kind ?aC_Schema ?pg_Schema ?hd_Schema ?po_Schema ?sa_Schema ?ha_Schema ?hn_Schema ?ht_Schema ?hm_Schema ?k1_Schema ?b1_Schema ?b2_Schema ?b3_Schema ?b4_Schema ?b5_Schema ?b6_Schema ?b7_Schema ?no_Schema_rows ?no_Schema_names ?no_Schema_known ?nf1_Schema ?nf2_Schema ?nf3_Schema ?nf4_Schema ?nf5_Schema ?nf6_Schema ?nf7_Schema ?nfo_Schema ?mk_Schema ?kc_Schema ?cr1_Schema ?cr2_Schema ?cr3_Schema_MOST ?cr4_Schema_MOST ?cr3_Schema_FIELDS ?cr4_Schema_FIELDS ?z_dict ?z_sorted ?aG_MOST_TAG ?rG_MOST_TAG ?aC_Graph ?pg_Graph ?hd_Graph ?po_Graph ?sa_Graph ?ha_Graph ?hn_Graph ?ht_Graph ?hm_Graph ?k1_Graph ?b1_Graph ?b2_Graph ?b3_Graph ?b4_Graph ?b5_Graph ?b6_Graph ?b7_Graph ?no_Graph_schema ?no_Graph_things ?no_Graph_root_thing ?no_Graph_held ?nf1_Graph ?nf2_Graph ?nf3_Graph ?nf4_Graph ?nf5_Graph ?nf6_Graph ?nf7_Graph ?nfo_Graph ?mk_Graph ?kc_Graph ?cr1_Graph ?cr2_Graph ?cr3_Graph_THINGS ?cr4_Graph_THINGS ?cr3_Graph_REFERENCES ?cr4_Graph_REFERENCES ?a_Graph_size ?pg_Graph_size ?pt_Graph_size ?pr_Graph_size ?l_Graph_size ?c_Graph_size ?k_Graph_size ?a_Graph_root ?pg_Graph_root ?pt_Graph_root ?pr_Graph_root ?l_Graph_root ?c_Graph_root ?k_Graph_root ?a_Graph_add ?i_Graph_add ?l_Graph_add ?c_Graph_add ?k_Graph_add ?kw0_Graph_add ?kr0_Graph_add ?a_is_letters ?l_is_letters ?c_is_letters ?k_is_letters ?a_is_kind_name ?l_is_kind_name ?c_is_kind_name ?k_is_kind_name ?a_is_field_name ?l_is_field_name ?c_is_field_name ?k_is_field_name ?a_is_mode ?l_is_mode ?c_is_mode ?k_is_mode ?a_is_field ?l_is_field ?c_is_field ?k_is_field ?a_is_bases ?l_is_bases ?c_is_bases ?k_is_bases ?a_Kind_init ?i_Kind_init ?l_Kind_init ?c_Kind_init ?k_Kind_init ?a_make_kind ?l_make_kind ?c_make_kind ?k_make_kind ?a_Schema_init ?i_Schema_init ?l_Schema_init ?c_Schema_init ?k_Schema_init ?a_Schema_getitem ?i_Schema_getitem ?l_Schema_getitem ?c_Schema_getitem ?k_Schema_getitem ?a_is_integer ?l_is_integer ?c_is_integer ?k_is_integer ?a_Schema_is_under ?i_Schema_is_under ?l_Schema_is_under ?c_Schema_is_under ?k_Schema_is_under ?a_is_concrete ?l_is_concrete ?c_is_concrete ?k_is_concrete ?a_is_tag ?l_is_tag ?c_is_tag ?k_is_tag ?a_is_member ?l_is_member ?c_is_member ?k_is_member ?a_is_value ?l_is_value ?c_is_value ?k_is_value ?a_kept_value ?l_kept_value ?c_kept_value ?k_kept_value ?a_empty_value ?l_empty_value ?c_empty_value ?k_empty_value ?a_numbers_in ?l_numbers_in ?c_numbers_in ?k_numbers_in ?a_Graph_init ?i_Graph_init ?l_Graph_init ?c_Graph_init ?k_Graph_init ?a_Graph_append_thing ?i_Graph_append_thing ?l_Graph_append_thing ?c_Graph_append_thing ?k_Graph_append_thing ?a_Graph_check_thing ?i_Graph_check_thing ?l_Graph_check_thing ?c_Graph_check_thing ?k_Graph_check_thing ?a_Graph_len ?i_Graph_len ?l_Graph_len ?c_Graph_len ?k_Graph_len ?a_Graph_row ?i_Graph_row ?l_Graph_row ?c_Graph_row ?k_Graph_row ?a_Graph_all_rows ?i_Graph_all_rows ?l_Graph_all_rows ?c_Graph_all_rows ?k_Graph_all_rows ?a_Schema_eq ?i_Schema_eq ?l_Schema_eq ?c_Schema_eq ?k_Schema_eq ?a_l_pen ?l_l_pen ?c_l_pen ?k_l_pen ?a_l_take ?l_l_take ?c_l_take ?k_l_take ?a_l_bit ?l_l_bit ?c_l_bit ?k_l_bit ?a_l_letters ?l_l_letters ?c_l_letters ?k_l_letters ?a_l_names ?l_l_names ?c_l_names ?k_l_names ?a_l_kind_names ?l_l_kind_names ?c_l_kind_names ?k_l_kind_names ?a_l_line ?l_l_line ?c_l_line ?k_l_line ?a_l_fields ?l_l_fields ?c_l_fields ?k_l_fields ?a_l_concrete ?l_l_concrete ?c_l_concrete ?k_l_concrete ?a_l_under ?l_l_under ?c_l_under ?k_l_under ?a_l_tag ?l_l_tag ?c_l_tag ?k_l_tag ?a_l_targets ?l_l_targets ?c_l_targets ?k_l_targets ?a_l_value ?l_l_value ?c_l_value ?k_l_value ?a_l_copied ?l_l_copied ?c_l_copied ?k_l_copied ?a_l_numbers ?l_l_numbers ?c_l_numbers ?k_l_numbers ?a_l_held ?l_l_held ?c_l_held ?k_l_held ?a_l_size ?l_l_size ?c_l_size ?k_l_size ?a_l_is_integer ?l_l_is_integer ?c_l_is_integer ?k_l_is_integer ?a_l_shows ?l_l_shows ?c_l_shows ?k_l_shows ?a_l_empty ?l_l_empty ?c_l_empty ?k_l_empty ?a_l_family ?l_l_family ?c_l_family ?k_l_family ?a_l_added ?l_l_added ?c_l_added ?k_l_added ?a_l_one_more ?l_l_one_more ?c_l_one_more ?k_l_one_more ?a_law ?l_law ?c_law ?k_law
    (case z_len => walk_at "w_leaf")
    (case z_int => walk_at "w_leaf")
    (case z_list => walk_at "w_leaf")
    (case z_range => walk_at "w_leaf")
    (case z_isinstance => walk_at "w_leaf")
    (case z_str => walk_at "w_leaf")
    (case z_tuple => walk_at "w_leaf")
    (case z_set => walk_at "w_leaf")
    (case z_enumerate => walk_at "w_leaf")
    (case z_reversed => walk_at "w_leaf")
    (case z_all => walk_at "w_leaf")
    (case z_repr => walk_at "w_leaf")
    (case z_bool => walk_at "w_leaf")
    (case aG_MODES => walk_at "w_leaf")
    (case lt_MODES => walk_at "w_leaf")
    (case ls_MODES => walk_at "w_leaf")
    (case lv_MODES => walk_at "w_vals")
    (case aG_RESERVED => walk_at "w_leaf")
    (case lt_RESERVED => walk_at "w_leaf")
    (case ls_RESERVED => walk_at "w_leaf")
    (case lv_RESERVED => walk_at "w_vals")
    (case aG_CAPITALS => walk_at "w_leaf")
    (case rG_CAPITALS => walk_at "w_rel")
    (case aG_LETTERS => walk_at "w_leaf")
    (case rG_LETTERS => walk_at "w_rel")
    (case aG_MOST_BASES => walk_at "w_leaf")
    (case rG_MOST_BASES => walk_at "w_rel")
    (case aC_BadSchema => walk_at "w_leaf")
    (case init_BadSchema => walk_at "w_leaf")
    (case ty_BadSchema => walk_at "w_leaf")
    (case lk_BadSchema => walk_at "w_leaf")
    (case hc_BadSchema => walk_at "w_leaf")
    (case code_BadSchema => walk_at "w_leaf")
    (case hv_BadSchema => walk_at "w_leaf")
    (case hf_BadSchema => walk_at "w_leaf")
    (case cell_BadSchema => walk_at "w_leaf")
    (case ic_BadSchema => walk_at "w_leaf")
    (case sub_BadSchema => walk_at "w_leaf")
    (case z_super => walk_at "w_leaf")
    (case z_tp => walk_at "w_leaf")
    (case z_top => walk_at "w_leaf")
    (case sup_BadSchema => walk_at "w_leaf")
    (case base_BadSchema => walk_at "w_leaf")
    (case exc_BadSchema => walk_at "w_leaf")
    (case sa_BadSchema => walk_at "w_leaf")
    (case ov_BadSchema => walk_at "w_leaf")
    (case hd_BadSchema => walk_at "w_leaf")
    (case no_BadSchema_at => walk_at "w_leaf")
    (case exC_BadSchema => walk_at "w_leaf")
    (case tyC_BadSchema => walk_at "w_leaf")
    (case kC_BadSchema => walk_at "w_leaf")
    (case su_BadSchema => walk_at "w_leaf")
    (case ga_BadSchema => walk_at "w_leaf")
    (case gg_BadSchema => walk_at "w_leaf")
    (case aC_NoKind => walk_at "w_leaf")
    (case init_NoKind => walk_at "w_leaf")
    (case ty_NoKind => walk_at "w_leaf")
    (case lk_NoKind => walk_at "w_leaf")
    (case hc_NoKind => walk_at "w_leaf")
    (case code_NoKind => walk_at "w_leaf")
    (case hv_NoKind => walk_at "w_leaf")
    (case hf_NoKind => walk_at "w_leaf")
    (case cell_NoKind => walk_at "w_leaf")
    (case ic_NoKind => walk_at "w_leaf")
    (case sub_NoKind => walk_at "w_leaf")
    (case sup_NoKind => walk_at "w_leaf")
    (case base_NoKind => walk_at "w_leaf")
    (case exc_NoKind => walk_at "w_leaf")
    (case sa_NoKind => walk_at "w_leaf")
    (case ov_NoKind => walk_at "w_leaf")
    (case hd_NoKind => walk_at "w_leaf")
    (case no_NoKind_kind => walk_at "w_leaf")
    (case exC_NoKind => walk_at "w_leaf")
    (case tyC_NoKind => walk_at "w_leaf")
    (case kC_NoKind => walk_at "w_leaf")
    (case su_NoKind => walk_at "w_leaf")
    (case ga_NoKind => walk_at "w_leaf")
    (case gg_NoKind => walk_at "w_leaf")
    (case aC_BadTag => walk_at "w_leaf")
    (case init_BadTag => walk_at "w_leaf")
    (case ty_BadTag => walk_at "w_leaf")
    (case lk_BadTag => walk_at "w_leaf")
    (case hc_BadTag => walk_at "w_leaf")
    (case code_BadTag => walk_at "w_leaf")
    (case hv_BadTag => walk_at "w_leaf")
    (case hf_BadTag => walk_at "w_leaf")
    (case cell_BadTag => walk_at "w_leaf")
    (case ic_BadTag => walk_at "w_leaf")
    (case sub_BadTag => walk_at "w_leaf")
    (case sup_BadTag => walk_at "w_leaf")
    (case base_BadTag => walk_at "w_leaf")
    (case exc_BadTag => walk_at "w_leaf")
    (case sa_BadTag => walk_at "w_leaf")
    (case ov_BadTag => walk_at "w_leaf")
    (case hd_BadTag => walk_at "w_leaf")
    (case no_BadTag_tag => walk_at "w_leaf")
    (case exC_BadTag => walk_at "w_leaf")
    (case tyC_BadTag => walk_at "w_leaf")
    (case kC_BadTag => walk_at "w_leaf")
    (case su_BadTag => walk_at "w_leaf")
    (case ga_BadTag => walk_at "w_leaf")
    (case gg_BadTag => walk_at "w_leaf")
    (case aC_NoField => walk_at "w_leaf")
    (case init_NoField => walk_at "w_leaf")
    (case ty_NoField => walk_at "w_leaf")
    (case lk_NoField => walk_at "w_leaf")
    (case hc_NoField => walk_at "w_leaf")
    (case code_NoField => walk_at "w_leaf")
    (case hv_NoField => walk_at "w_leaf")
    (case hf_NoField => walk_at "w_leaf")
    (case cell_NoField => walk_at "w_leaf")
    (case ic_NoField => walk_at "w_leaf")
    (case sub_NoField => walk_at "w_leaf")
    (case sup_NoField => walk_at "w_leaf")
    (case base_NoField => walk_at "w_leaf")
    (case exc_NoField => walk_at "w_leaf")
    (case sa_NoField => walk_at "w_leaf")
    (case ov_NoField => walk_at "w_leaf")
    (case hd_NoField => walk_at "w_leaf")
    (case no_NoField_kind => walk_at "w_leaf")
    (case no_NoField_field => walk_at "w_leaf")
    (case exC_NoField => walk_at "w_leaf")
    (case tyC_NoField => walk_at "w_leaf")
    (case kC_NoField => walk_at "w_leaf")
    (case su_NoField => walk_at "w_leaf")
    (case ga_NoField => walk_at "w_leaf")
    (case gg_NoField => walk_at "w_leaf")
    (case aC_BadValue => walk_at "w_leaf")
    (case init_BadValue => walk_at "w_leaf")
    (case ty_BadValue => walk_at "w_leaf")
    (case lk_BadValue => walk_at "w_leaf")
    (case hc_BadValue => walk_at "w_leaf")
    (case code_BadValue => walk_at "w_leaf")
    (case hv_BadValue => walk_at "w_leaf")
    (case hf_BadValue => walk_at "w_leaf")
    (case cell_BadValue => walk_at "w_leaf")
    (case ic_BadValue => walk_at "w_leaf")
    (case sub_BadValue => walk_at "w_leaf")
    (case sup_BadValue => walk_at "w_leaf")
    (case base_BadValue => walk_at "w_leaf")
    (case exc_BadValue => walk_at "w_leaf")
    (case sa_BadValue => walk_at "w_leaf")
    (case ov_BadValue => walk_at "w_leaf")
    (case hd_BadValue => walk_at "w_leaf")
    (case no_BadValue_field => walk_at "w_leaf")
    (case exC_BadValue => walk_at "w_leaf")
    (case tyC_BadValue => walk_at "w_leaf")
    (case kC_BadValue => walk_at "w_leaf")
    (case su_BadValue => walk_at "w_leaf")
    (case ga_BadValue => walk_at "w_leaf")
    (case gg_BadValue => walk_at "w_leaf")
    (case aC_NoThing => walk_at "w_leaf")
    (case init_NoThing => walk_at "w_leaf")
    (case ty_NoThing => walk_at "w_leaf")
    (case lk_NoThing => walk_at "w_leaf")
    (case hc_NoThing => walk_at "w_leaf")
    (case code_NoThing => walk_at "w_leaf")
    (case hv_NoThing => walk_at "w_leaf")
    (case hf_NoThing => walk_at "w_leaf")
    (case cell_NoThing => walk_at "w_leaf")
    (case ic_NoThing => walk_at "w_leaf")
    (case sub_NoThing => walk_at "w_leaf")
    (case sup_NoThing => walk_at "w_leaf")
    (case base_NoThing => walk_at "w_leaf")
    (case exc_NoThing => walk_at "w_leaf")
    (case sa_NoThing => walk_at "w_leaf")
    (case ov_NoThing => walk_at "w_leaf")
    (case hd_NoThing => walk_at "w_leaf")
    (case no_NoThing_thing => walk_at "w_leaf")
    (case exC_NoThing => walk_at "w_leaf")
    (case tyC_NoThing => walk_at "w_leaf")
    (case kC_NoThing => walk_at "w_leaf")
    (case su_NoThing => walk_at "w_leaf")
    (case ga_NoThing => walk_at "w_leaf")
    (case gg_NoThing => walk_at "w_leaf")
    (case aC_TooMany => walk_at "w_leaf")
    (case init_TooMany => walk_at "w_leaf")
    (case ty_TooMany => walk_at "w_leaf")
    (case lk_TooMany => walk_at "w_leaf")
    (case hc_TooMany => walk_at "w_leaf")
    (case code_TooMany => walk_at "w_leaf")
    (case hv_TooMany => walk_at "w_leaf")
    (case hf_TooMany => walk_at "w_leaf")
    (case cell_TooMany => walk_at "w_leaf")
    (case ic_TooMany => walk_at "w_leaf")
    (case sub_TooMany => walk_at "w_leaf")
    (case sup_TooMany => walk_at "w_leaf")
    (case base_TooMany => walk_at "w_leaf")
    (case exc_TooMany => walk_at "w_leaf")
    (case sa_TooMany => walk_at "w_leaf")
    (case ov_TooMany => walk_at "w_leaf")
    (case hd_TooMany => walk_at "w_leaf")
    (case no_TooMany_what => walk_at "w_leaf")
    (case exC_TooMany => walk_at "w_leaf")
    (case tyC_TooMany => walk_at "w_leaf")
    (case kC_TooMany => walk_at "w_leaf")
    (case su_TooMany => walk_at "w_leaf")
    (case ga_TooMany => walk_at "w_leaf")
    (case gg_TooMany => walk_at "w_leaf")
    (case aC_Kind => walk_at "w_leaf")
    (case pg_Kind => walk_at "w_leaf")
    (case hd_Kind => walk_at "w_leaf")
    (case po_Kind => walk_at "w_leaf")
    (case sa_Kind => walk_at "w_leaf")
    (case ha_Kind => walk_at "w_leaf")
    (case hn_Kind => walk_at "w_leaf")
    (case ht_Kind => walk_at "w_leaf")
    (case hm_Kind => walk_at "w_leaf")
    (case k1_Kind => walk_at "w_leaf")
    (case b1_Kind => walk_at "w_leaf")
    (case b2_Kind => walk_at "w_leaf")
    (case b3_Kind => walk_at "w_leaf")
    (case b4_Kind => walk_at "w_leaf")
    (case b5_Kind => walk_at "w_leaf")
    (case b6_Kind => walk_at "w_leaf")
    (case b7_Kind => walk_at "w_leaf")
    (case no_Kind_name => walk_at "w_leaf")
    (case no_Kind_bases => walk_at "w_leaf")
    (case no_Kind_is_abstract => walk_at "w_leaf")
    (case no_Kind_own => walk_at "w_leaf")
    (case no_Kind_line => walk_at "w_leaf")
    (case no_Kind_fields => walk_at "w_leaf")
    (case mk_Kind => walk_at "w_leaf")
    (case kc_Kind => walk_at "w_leaf")
    (case aC_Schema => walk_at "w_leaf")
    (case pg_Schema => walk_at "w_leaf")
    (case hd_Schema => walk_at "w_leaf")
    (case po_Schema => walk_at "w_leaf")
    (case sa_Schema => walk_at "w_leaf")
    (case ha_Schema => walk_at "w_leaf")
    (case hn_Schema => walk_at "w_leaf")
    (case ht_Schema => walk_at "w_leaf")
    (case hm_Schema => walk_at "w_leaf")
    (case k1_Schema => walk_at "w_leaf")
    (case b1_Schema => walk_at "w_leaf")
    (case b2_Schema => walk_at "w_leaf")
    (case b3_Schema => walk_at "w_leaf")
    (case b4_Schema => walk_at "w_leaf")
    (case b5_Schema => walk_at "w_leaf")
    (case b6_Schema => walk_at "w_leaf")
    (case b7_Schema => walk_at "w_leaf")
    (case no_Schema_rows => walk_at "w_leaf")
    (case no_Schema_names => walk_at "w_leaf")
    (case no_Schema_known => walk_at "w_leaf")
    (case nf1_Schema => walk_at "w_leaf")
    (case nf2_Schema => walk_at "w_leaf")
    (case nf3_Schema => walk_at "w_leaf")
    (case nf4_Schema => walk_at "w_leaf")
    (case nf5_Schema => walk_at "w_leaf")
    (case nf6_Schema => walk_at "w_leaf")
    (case nf7_Schema => walk_at "w_leaf")
    (case nfo_Schema => walk_at "w_leaf")
    (case mk_Schema => walk_at "w_leaf")
    (case kc_Schema => walk_at "w_leaf")
    (case cr1_Schema => walk_at "w_leaf")
    (case cr2_Schema => walk_at "w_leaf")
    (case cr3_Schema_MOST => walk_at "w_leaf")
    (case cr4_Schema_MOST => walk_at "w_rel")
    (case cr3_Schema_FIELDS => walk_at "w_leaf")
    (case cr4_Schema_FIELDS => walk_at "w_rel")
    (case z_dict => walk_at "w_leaf")
    (case z_sorted => walk_at "w_leaf")
    (case aG_MOST_TAG => walk_at "w_leaf")
    (case rG_MOST_TAG => walk_at "w_rel")
    (case aC_Graph => walk_at "w_leaf")
    (case pg_Graph => walk_at "w_leaf")
    (case hd_Graph => walk_at "w_leaf")
    (case po_Graph => walk_at "w_leaf")
    (case sa_Graph => walk_at "w_leaf")
    (case ha_Graph => walk_at "w_leaf")
    (case hn_Graph => walk_at "w_leaf")
    (case ht_Graph => walk_at "w_leaf")
    (case hm_Graph => walk_at "w_leaf")
    (case k1_Graph => walk_at "w_leaf")
    (case b1_Graph => walk_at "w_leaf")
    (case b2_Graph => walk_at "w_leaf")
    (case b3_Graph => walk_at "w_leaf")
    (case b4_Graph => walk_at "w_leaf")
    (case b5_Graph => walk_at "w_leaf")
    (case b6_Graph => walk_at "w_leaf")
    (case b7_Graph => walk_at "w_leaf")
    (case no_Graph_schema => walk_at "w_leaf")
    (case no_Graph_things => walk_at "w_leaf")
    (case no_Graph_root_thing => walk_at "w_leaf")
    (case no_Graph_held => walk_at "w_leaf")
    (case nf1_Graph => walk_at "w_leaf")
    (case nf2_Graph => walk_at "w_leaf")
    (case nf3_Graph => walk_at "w_leaf")
    (case nf4_Graph => walk_at "w_leaf")
    (case nf5_Graph => walk_at "w_leaf")
    (case nf6_Graph => walk_at "w_leaf")
    (case nf7_Graph => walk_at "w_leaf")
    (case nfo_Graph => walk_at "w_leaf")
    (case mk_Graph => walk_at "w_leaf")
    (case kc_Graph => walk_at "w_leaf")
    (case cr1_Graph => walk_at "w_leaf")
    (case cr2_Graph => walk_at "w_leaf")
    (case cr3_Graph_THINGS => walk_at "w_leaf")
    (case cr4_Graph_THINGS => walk_at "w_rel")
    (case cr3_Graph_REFERENCES => walk_at "w_leaf")
    (case cr4_Graph_REFERENCES => walk_at "w_rel")
    (case a_Graph_size => walk_at "w_leaf")
    (case pg_Graph_size => walk_at "w_leaf")
    (case pt_Graph_size => walk_at "w_leaf")
    (case pr_Graph_size => walk_at "w_leaf")
    (case l_Graph_size => walk_at "w_leaf")
    (case c_Graph_size => walk_at "w_leaf")
    (case k_Graph_size => walk_at "w_leaf")
    (case a_Graph_root => walk_at "w_leaf")
    (case pg_Graph_root => walk_at "w_leaf")
    (case pt_Graph_root => walk_at "w_leaf")
    (case pr_Graph_root => walk_at "w_leaf")
    (case l_Graph_root => walk_at "w_leaf")
    (case c_Graph_root => walk_at "w_leaf")
    (case k_Graph_root => walk_at "w_leaf")
    (case a_Graph_add => walk_at "w_leaf")
    (case i_Graph_add => walk_at "w_leaf")
    (case l_Graph_add => walk_at "w_leaf")
    (case c_Graph_add => walk_at "w_leaf")
    (case k_Graph_add => walk_at "w_leaf")
    (case kw0_Graph_add => walk_at "w_leaf")
    (case kr0_Graph_add => walk_at "w_rel")
    (case a_is_letters => walk_at "w_leaf")
    (case l_is_letters => walk_at "w_leaf")
    (case c_is_letters => walk_at "w_leaf")
    (case k_is_letters => walk_at "w_leaf")
    (case a_is_kind_name => walk_at "w_leaf")
    (case l_is_kind_name => walk_at "w_leaf")
    (case c_is_kind_name => walk_at "w_leaf")
    (case k_is_kind_name => walk_at "w_leaf")
    (case a_is_field_name => walk_at "w_leaf")
    (case l_is_field_name => walk_at "w_leaf")
    (case c_is_field_name => walk_at "w_leaf")
    (case k_is_field_name => walk_at "w_leaf")
    (case a_is_mode => walk_at "w_leaf")
    (case l_is_mode => walk_at "w_leaf")
    (case c_is_mode => walk_at "w_leaf")
    (case k_is_mode => walk_at "w_leaf")
    (case a_is_field => walk_at "w_leaf")
    (case l_is_field => walk_at "w_leaf")
    (case c_is_field => walk_at "w_leaf")
    (case k_is_field => walk_at "w_leaf")
    (case a_is_bases => walk_at "w_leaf")
    (case l_is_bases => walk_at "w_leaf")
    (case c_is_bases => walk_at "w_leaf")
    (case k_is_bases => walk_at "w_leaf")
    (case a_Kind_init => walk_at "w_leaf")
    (case i_Kind_init => walk_at "w_leaf")
    (case l_Kind_init => walk_at "w_leaf")
    (case c_Kind_init => walk_at "w_leaf")
    (case k_Kind_init => walk_at "w_leaf")
    (case a_make_kind => walk_at "w_leaf")
    (case l_make_kind => walk_at "w_leaf")
    (case c_make_kind => walk_at "w_leaf")
    (case k_make_kind => walk_at "w_leaf")
    (case a_Schema_init => walk_at "w_leaf")
    (case i_Schema_init => walk_at "w_leaf")
    (case l_Schema_init => walk_at "w_leaf")
    (case c_Schema_init => walk_at "w_leaf")
    (case k_Schema_init => walk_at "w_leaf")
    (case a_Schema_getitem => walk_at "w_leaf")
    (case i_Schema_getitem => walk_at "w_leaf")
    (case l_Schema_getitem => walk_at "w_leaf")
    (case c_Schema_getitem => walk_at "w_leaf")
    (case k_Schema_getitem => walk_at "w_leaf")
    (case a_is_integer => walk_at "w_leaf")
    (case l_is_integer => walk_at "w_leaf")
    (case c_is_integer => walk_at "w_leaf")
    (case k_is_integer => walk_at "w_leaf")
    (case a_Schema_is_under => walk_at "w_leaf")
    (case i_Schema_is_under => walk_at "w_leaf")
    (case l_Schema_is_under => walk_at "w_leaf")
    (case c_Schema_is_under => walk_at "w_leaf")
    (case k_Schema_is_under => walk_at "w_leaf")
    (case a_is_concrete => walk_at "w_leaf")
    (case l_is_concrete => walk_at "w_leaf")
    (case c_is_concrete => walk_at "w_leaf")
    (case k_is_concrete => walk_at "w_leaf")
    (case a_is_tag => walk_at "w_leaf")
    (case l_is_tag => walk_at "w_leaf")
    (case c_is_tag => walk_at "w_leaf")
    (case k_is_tag => walk_at "w_leaf")
    (case a_is_member => walk_at "w_leaf")
    (case l_is_member => walk_at "w_leaf")
    (case c_is_member => walk_at "w_leaf")
    (case k_is_member => walk_at "w_leaf")
    (case a_is_value => walk_at "w_leaf")
    (case l_is_value => walk_at "w_leaf")
    (case c_is_value => walk_at "w_leaf")
    (case k_is_value => walk_at "w_leaf")
    (case a_kept_value => walk_at "w_leaf")
    (case l_kept_value => walk_at "w_leaf")
    (case c_kept_value => walk_at "w_leaf")
    (case k_kept_value => walk_at "w_leaf")
    (case a_empty_value => walk_at "w_leaf")
    (case l_empty_value => walk_at "w_leaf")
    (case c_empty_value => walk_at "w_leaf")
    (case k_empty_value => walk_at "w_leaf")
    (case a_numbers_in => walk_at "w_leaf")
    (case l_numbers_in => walk_at "w_leaf")
    (case c_numbers_in => walk_at "w_leaf")
    (case k_numbers_in => walk_at "w_leaf")
    (case a_Graph_init => walk_at "w_leaf")
    (case i_Graph_init => walk_at "w_leaf")
    (case l_Graph_init => walk_at "w_leaf")
    (case c_Graph_init => walk_at "w_leaf")
    (case k_Graph_init => walk_at "w_leaf")
    (case a_Graph_append_thing => walk_at "w_leaf")
    (case i_Graph_append_thing => walk_at "w_leaf")
    (case l_Graph_append_thing => walk_at "w_leaf")
    (case c_Graph_append_thing => walk_at "w_leaf")
    (case k_Graph_append_thing => walk_at "w_leaf")
    (case a_Graph_check_thing => walk_at "w_leaf")
    (case i_Graph_check_thing => walk_at "w_leaf")
    (case l_Graph_check_thing => walk_at "w_leaf")
    (case c_Graph_check_thing => walk_at "w_leaf")
    (case k_Graph_check_thing => walk_at "w_leaf")
    (case a_Graph_len => walk_at "w_leaf")
    (case i_Graph_len => walk_at "w_leaf")
    (case l_Graph_len => walk_at "w_leaf")
    (case c_Graph_len => walk_at "w_leaf")
    (case k_Graph_len => walk_at "w_leaf")
    (case a_Graph_row => walk_at "w_leaf")
    (case i_Graph_row => walk_at "w_leaf")
    (case l_Graph_row => walk_at "w_leaf")
    (case c_Graph_row => walk_at "w_leaf")
    (case k_Graph_row => walk_at "w_leaf")
    (case a_Graph_all_rows => walk_at "w_leaf")
    (case i_Graph_all_rows => walk_at "w_leaf")
    (case l_Graph_all_rows => walk_at "w_leaf")
    (case c_Graph_all_rows => walk_at "w_leaf")
    (case k_Graph_all_rows => walk_at "w_leaf")
    (case a_Schema_eq => walk_at "w_leaf")
    (case i_Schema_eq => walk_at "w_leaf")
    (case l_Schema_eq => walk_at "w_leaf")
    (case c_Schema_eq => walk_at "w_leaf")
    (case k_Schema_eq => walk_at "w_leaf")
    (case a_l_pen => walk_at "w_leaf")
    (case l_l_pen => walk_at "w_leaf")
    (case c_l_pen => walk_at "w_leaf")
    (case k_l_pen => walk_at "w_leaf")
    (case a_l_take => walk_at "w_leaf")
    (case l_l_take => walk_at "w_leaf")
    (case c_l_take => walk_at "w_leaf")
    (case k_l_take => walk_at "w_leaf")
    (case a_l_bit => walk_at "w_leaf")
    (case l_l_bit => walk_at "w_leaf")
    (case c_l_bit => walk_at "w_leaf")
    (case k_l_bit => walk_at "w_leaf")
    (case a_l_letters => walk_at "w_leaf")
    (case l_l_letters => walk_at "w_leaf")
    (case c_l_letters => walk_at "w_leaf")
    (case k_l_letters => walk_at "w_leaf")
    (case a_l_names => walk_at "w_leaf")
    (case l_l_names => walk_at "w_leaf")
    (case c_l_names => walk_at "w_leaf")
    (case k_l_names => walk_at "w_leaf")
    (case a_l_kind_names => walk_at "w_leaf")
    (case l_l_kind_names => walk_at "w_leaf")
    (case c_l_kind_names => walk_at "w_leaf")
    (case k_l_kind_names => walk_at "w_leaf")
    (case a_l_line => walk_at "w_leaf")
    (case l_l_line => walk_at "w_leaf")
    (case c_l_line => walk_at "w_leaf")
    (case k_l_line => walk_at "w_leaf")
    (case a_l_fields => walk_at "w_leaf")
    (case l_l_fields => walk_at "w_leaf")
    (case c_l_fields => walk_at "w_leaf")
    (case k_l_fields => walk_at "w_leaf")
    (case a_l_concrete => walk_at "w_leaf")
    (case l_l_concrete => walk_at "w_leaf")
    (case c_l_concrete => walk_at "w_leaf")
    (case k_l_concrete => walk_at "w_leaf")
    (case a_l_under => walk_at "w_leaf")
    (case l_l_under => walk_at "w_leaf")
    (case c_l_under => walk_at "w_leaf")
    (case k_l_under => walk_at "w_leaf")
    (case a_l_tag => walk_at "w_leaf")
    (case l_l_tag => walk_at "w_leaf")
    (case c_l_tag => walk_at "w_leaf")
    (case k_l_tag => walk_at "w_leaf")
    (case a_l_targets => walk_at "w_leaf")
    (case l_l_targets => walk_at "w_leaf")
    (case c_l_targets => walk_at "w_leaf")
    (case k_l_targets => walk_at "w_leaf")
    (case a_l_value => walk_at "w_leaf")
    (case l_l_value => walk_at "w_leaf")
    (case c_l_value => walk_at "w_leaf")
    (case k_l_value => walk_at "w_leaf")
    (case a_l_copied => walk_at "w_leaf")
    (case l_l_copied => walk_at "w_leaf")
    (case c_l_copied => walk_at "w_leaf")
    (case k_l_copied => walk_at "w_leaf")
    (case a_l_numbers => walk_at "w_leaf")
    (case l_l_numbers => walk_at "w_leaf")
    (case c_l_numbers => walk_at "w_leaf")
    (case k_l_numbers => walk_at "w_leaf")
    (case a_l_held => walk_at "w_leaf")
    (case l_l_held => walk_at "w_leaf")
    (case c_l_held => walk_at "w_leaf")
    (case k_l_held => walk_at "w_leaf")
    (case a_l_size => walk_at "w_leaf")
    (case l_l_size => walk_at "w_leaf")
    (case c_l_size => walk_at "w_leaf")
    (case k_l_size => walk_at "w_leaf")
    (case a_l_is_integer => walk_at "w_leaf")
    (case l_l_is_integer => walk_at "w_leaf")
    (case c_l_is_integer => walk_at "w_leaf")
    (case k_l_is_integer => walk_at "w_leaf")
    (case a_l_shows => walk_at "w_leaf")
    (case l_l_shows => walk_at "w_leaf")
    (case c_l_shows => walk_at "w_leaf")
    (case k_l_shows => walk_at "w_leaf")
    (case a_l_empty => walk_at "w_leaf")
    (case l_l_empty => walk_at "w_leaf")
    (case c_l_empty => walk_at "w_leaf")
    (case k_l_empty => walk_at "w_leaf")
    (case a_l_family => walk_at "w_leaf")
    (case l_l_family => walk_at "w_leaf")
    (case c_l_family => walk_at "w_leaf")
    (case k_l_family => walk_at "w_leaf")
    (case a_l_added => walk_at "w_leaf")
    (case l_l_added => walk_at "w_leaf")
    (case c_l_added => walk_at "w_leaf")
    (case k_l_added => walk_at "w_leaf")
    (case a_l_one_more => walk_at "w_leaf")
    (case l_l_one_more => walk_at "w_leaf")
    (case c_l_one_more => walk_at "w_leaf")
    (case k_l_one_more => walk_at "w_leaf")
    (case a_law => walk_at "w_leaf")
    (case l_law => walk_at "w_leaf")
    (case c_law => walk_at "w_leaf")
    (case k_law => walk_at "w_leaf")
