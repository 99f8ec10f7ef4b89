import PyProof.Rows.All
import Wide.All
import OpenK.AllK
import Wide.FinOn
import HandS.Exc
import HandS.ExcOwn
import HandS.Ends
import KE.KExcPX
import KE.KExcInit
import KE.KExcMake
import KE.KExcSuper
import KE.KSuper
import HandS.TupSets
import KE.KeyNested
import HandS.ForMost
import HandS.IsInst
import HandS.Lambda
import KE.KDflt
import HandS.Flow
import HandS.CallSlots
import HandS.Deep
import PyProof.StrBlock2
import KE.GoesMore
import KE.GoesZip
import KE.GoesEnum
import HandS.MakeKwOnly
import HandS.ClsMeth
import HandS.ExcIs
import HandS.ExcField
import HandS.HeadHook4
import PySem.Challenge.RW_oncethrough_k44_needed_cells
import HandS.Style
import HandS.ExcBuiltin
import HandS.Conv
import PyProof.ByEval2
import KE.KStateDown
import Lean
import HandS.More
import HandS.Words
import HandS.WordsExc
import HandS.Defaults
import HandS.Head0
import HandS.Head1
import HandS.Head2
import HandS.HeadEnd
import HandS.HeadHook1
import HandS.HeadHook2
import HandS.Codes
import KE.KTryMore
import HandS.HotCalls
import HandS.Star
import HandS.OwnEq
import HandS.Strs
import OpenK.KMeth
import HandS.Text
import KE.KListMore
import HandS.DictComp
import HandS.SortOrd
import OpenK.KWalk
import HandS.Iter
import PyProof.DictUpdate
import PyProof.MeetsSeq2
import PyProof.DictDisplay
import KE.KEqDict
import HandS.FStr
import HandS.RaiseMore
import OpenK.KOps
import PyProof.InstEq
import HandS.Keys
import HandS.SetKeys
import HandS.HeadNt
import HandS.RaiseFrom
import HandS.SuiteRaise
import PyProof.Rows.Range3
import PyProof.Conv_bool
import HandS.HeadWalk
set_option Elab.async false
set_option linter.all false
set_option maxRecDepth 100000
set_option maxHeartbeats 4000000
namespace PySem
namespace XO
open Builtin Builtin.ObjectAttr PySem.W PySem.Calls PyProof.Rows PySem.HandSPX
section
variable {prog : Program} {w : World} {A : Around} {E : Value → Shared → Prop} {R : Result → Shared → Prop} {hp : Heap} {g : Array GenState} {d : Drawn} {t : Nat} {os : OsState} {B : String} {bmB : List Value}
/-- self.name = v, no dict yet -/
theorem osa_new {K : W.Frag} {name : Str} {tk : Tok} {v : Value} {x C : Addr} {fv : Array Value} {cd : ClassData} (ST : StoreFacts B bmB "object.__setattr__" "object")
    (X : K.In hp) (hx : hp.get? x = some { cls := .ref C, data := .fields fv }) (hcd : W.clsIn K C = some cd) (hm : excTail bmB cd.mro = true) (ne : cd.mro.isEmpty = false) (hh : cd.hasDict = true) (ha : W.findIn K (.ref C) name = some none)
    (hq : ∀ h' tk' dx, (∀ b o, b ≠ x → hp.get? b = some o → h'.get? b = some o) → hp.objs.size ≤ dx → dx ≠ x → h'.get? x = some { cls := .ref C, dict := some dx, data := .fields fv } →
      h'.Ns1 dx (fun y => if y = name then some v else none) → R (.ok (.ret .none)) ⟨h', g, d, tk', os⟩) :
    codeAny (model prog w) A (.call (.builtin "object.__setattr__") ⟨[.ref x, .str name tk, v], []⟩) R ⟨hp, g, d, t, os⟩ := by
  have I : W.InstAt hp x { cls := .ref C, data := .fields fv } C none := ⟨hx, rfl, rfl, trivial⟩
  have SF := F.store_object
  have hob : cd.mro.contains (.type "object") = true := (excTail_contains "object" _ hm).trans ST.hasOwner
  have hxs : x ≠ hp.objs.size := Nat.ne_of_lt (Heap.lt_size hx)
  have sub : W.Looks (model prog w) hp (isInstance (.ref x) (.type "object")) true := I.type.andThen (W.looks_mroIn X (by unfold W.mroIn; rw [hcd, Option.bind_some, if_neg (by rw [ne]; decide), hob]))
  refine codeAny_call_builtin SF.slot.plain SF.entry (@W.check_slot (model prog w) _ _ ⟨hp, g, d, t, os⟩ "object.__setattr__" "object" "__setattr__" (.ref x) [.str name tk, v] [] _ SF.kind SF.split sub (SF.args (.ref x) (.str name tk) v) ?_)
  have hmr : W.Looks (model prog w) hp (mroOf (.ref C)) cd.mro := (W.looks_clsIn X hcd).andThen .now
  have L3 : W.Looks (model prog w) hp (storeTaker? none) none := .now
  have hcls : W.Looks (model prog w) hp (classData C) cd := W.looks_clsIn X hcd
  rw [W.osa_eq, refuse_eq]
  refine wpAny_bind (wpAny_bind (I.type.at (wpAny_bind (hmr.at ?_))))
  rw [excTail_pass _ (ST.passes _) _ hm]
  refine wpAny_pure (wpAny_bind (I.type.at (wpAny_bind ((W.looks_findIn X ha).at (wpAny_bind (L3.at ?_))))))
  show wpAny _ _ (storeInOwnDict (.ref x) (.ref C) (.str name tk) name v false) _ _ _
  obtain ⟨nm, bs, mro, ns, qn, hd, sn, sb, ab, col, del⟩ := cd
  dsimp only at hh
  subst hh
  unfold storeInOwnDict ownDictForStores
  repeat (first | with_reducible refine store_in_new ?_ ?_ | with_reducible refine wpAny_loadPart_at hx ?_ | with_reducible refine hcls.at ?_ | wp_step)
  · exact ⟨_, #[], _, (Heap.get?_update_ne _ _ _ _ hxs.symm).trans (Heap.get?_push_at rfl rfl), rfl, fun e he => absurd he (by simp), fun _ => rfl⟩
  · intro h' tk' hn' hs
    have hx₁ : (hp.push { cls := .type "dict", data := .dict #[] }).get? x = some { cls := .ref C, data := .fields fv } := Heap.get?_push_of_some _ hx
    refine hq h' tk' hp.objs.size (fun b o hb ho => ?_) (Nat.le_refl _) hxs.symm ?_ hn'
    · exact (hs.2 b (Nat.ne_of_lt (Heap.lt_size ho))).trans ((Heap.get?_update_ne _ _ _ _ hb).trans (Heap.get?_push_of_some _ ho))
    · exact (hs.2 x hxs).trans (Heap.get?_update_self _ hx₁ rfl)
theorem store_old {M : Model} {dx : Addr} {name : Str} {tk : Tok} {v : Value} {m0 : Str → Option Value} {ns : List Str} {Q : Fin → Shared → Prop} (hn : hp.Ns1 dx m0) (hw : Within m0 ns) (hz : ns.length ≤ 1000)
    (hq : ∀ h' tk', h'.Ns1 dx (fun y => if y = name then some v else m0 y) → Heap.SameBut dx hp h' → Q (.done (.ret .none)) ⟨h', g, d, tk', os⟩) :
    wpAny M A (storeInDict dx (.str name tk) name v) Q E ⟨hp, g, d, t, os⟩ := by
  unfold storeInDict newKeyGuard
  refine wpAny_bind (wpAny_pure (wpAny_bind (wpAny_nsSet1 hn fun h' hn' hs => ?_)))
  obtain ⟨oD, esD, epD, hoD, hdD, hcD⟩ := hn'.count (Within.cons name v hw)
  refine wpAny_bind (wpAny_lookBehind hoD (by rw [hdD]; exact pastItsLine_dict (Nat.le_trans hcD (by rw [List.length_cons, sizeLine_eq]; omega))) ?_)
  wp_walk
  exact hq h' _ hn' hs
/-- a further field -/
theorem osa_more {K : W.Frag} {name : Str} {tk : Tok} {v : Value} {x C dx : Addr} {fv : Array Value} {cd : ClassData} {m0 : Str → Option Value} {nl : List Str} (ST : StoreFacts B bmB "object.__setattr__" "object")
    (X : K.In hp) (hx : hp.get? x = some { cls := .ref C, dict := some dx, data := .fields fv }) (hns : hp.Ns1 dx m0) (hw : Within m0 nl) (hz : nl.length ≤ 1000) (hcd : W.clsIn K C = some cd) (hm : excTail bmB cd.mro = true) (ne : cd.mro.isEmpty = false) (hh : cd.hasDict = true)
    (ha : W.findIn K (.ref C) name = some none)
    (hq : ∀ h' tk', (∀ b o, b ≠ dx → hp.get? b = some o → h'.get? b = some o) → h'.Ns1 dx (fun y => if y = name then some v else m0 y) → R (.ok (.ret .none)) ⟨h', g, d, tk', os⟩) :
    codeAny (model prog w) A (.call (.builtin "object.__setattr__") ⟨[.ref x, .str name tk, v], []⟩) R ⟨hp, g, d, t, os⟩ := by
  obtain ⟨oD, esD, epD, hoD, hdD, _⟩ := hns.count hw
  have I : W.InstAt hp x { cls := .ref C, dict := some dx, data := .fields fv } C (some oD) := ⟨hx, rfl, rfl, hoD⟩
  have SF := F.store_object
  have hob : cd.mro.contains (.type "object") = true := (excTail_contains "object" _ hm).trans ST.hasOwner
  have sub : W.Looks (model prog w) hp (isInstance (.ref x) (.type "object")) true := I.type.andThen (W.looks_mroIn X (by unfold W.mroIn; rw [hcd, Option.bind_some, if_neg (by rw [ne]; decide), hob]))
  refine codeAny_call_builtin SF.slot.plain SF.entry (@W.check_slot (model prog w) _ _ ⟨hp, g, d, t, os⟩ "object.__setattr__" "object" "__setattr__" (.ref x) [.str name tk, v] [] _ SF.kind SF.split sub (SF.args (.ref x) (.str name tk) v) ?_)
  have hmr : W.Looks (model prog w) hp (mroOf (.ref C)) cd.mro := (W.looks_clsIn X hcd).andThen .now
  have L3 : W.Looks (model prog w) hp (storeTaker? none) none := .now
  have hcls : W.Looks (model prog w) hp (classData C) cd := W.looks_clsIn X hcd
  rw [W.osa_eq, refuse_eq]
  refine wpAny_bind (wpAny_bind (I.type.at (wpAny_bind (hmr.at ?_))))
  rw [excTail_pass _ (ST.passes _) _ hm]
  refine wpAny_pure (wpAny_bind (I.type.at (wpAny_bind ((W.looks_findIn X ha).at (wpAny_bind (L3.at ?_))))))
  show wpAny _ _ (storeInOwnDict (.ref x) (.ref C) (.str name tk) name v false) _ _ _
  obtain ⟨nm, bs, mro, ns, qn, hd, sn, sb, ab, col, del⟩ := cd
  dsimp only at hh
  subst hh
  unfold storeInOwnDict ownDictForStores
  repeat (first | with_reducible refine store_old hns hw hz ?_ | with_reducible refine wpAny_loadPart_at hx ?_ | with_reducible refine hcls.at ?_ | wp_step)
  intro h' tk' hn' hs
  exact hq h' tk' (fun b o hb ho => (hs.2 b hb).trans ho) hn'
/-- the bound __init__ of a built-in error, called -/
theorem call_mw {K : W.Frag} {i newId : String} {u x C t0 : Addr} {dv : Option Addr} {c2 : Value} {rest : List Value} {Q : Value → Shared → Prop} (X : K.In hp) (FB : ExcBaseFacts B newId i bmB) (q : excInitIn K C bmB newId = true) (hu : hp.get? u = some (kxs_mw i x)) (he : hp.get? x = some (excObj C t0 dv c2)) (hz : rest.length ≤ sizeLine)
    (fin : ∀ h', (∀ b o, b ≠ x → hp.get? b = some o → h'.get? b = some o) → h'.get? x = some (excObj C hp.objs.size dv c2) → Q .none ⟨h', g, d, t, os⟩) :
    wpAny (model prog w) A (call (.ref u) rest) Q E ⟨hp, g, d, t, os⟩ := by
  obtain ⟨nm, N', qn, bs, bm, hdct, sn, sub, ab, col, dd, k0, k1, k2, k3, k5, hC, hT⟩ := excInit_of X q
  refine wpAny_call (codeAny_of_tree ?_)
  show wpAny _ A.in1 (callAny (.ref u) ⟨rest, []⟩) _ _ _
  simp only [callAny]
  refine wpAny_bind (wpAny_load hu ?_)
  simp only [kxs_mw, show (Value.type "method-wrapper" == Value.type "method" || Value.type "method-wrapper" == Value.type "builtin_function_or_method" || Value.type "method-wrapper" == Value.type "method-wrapper") = true by decide, if_true]
  refine KFB.if_so (by decide) ?_
  refine wpAny_bind (check_bound_init FB.toExcCallFacts hC he rfl ?_)
  refine wpAny_bind (wpAny_pure (wpAny_pure ?_))
  refine ⟨plainId_quiet FB.init.plain _, codeAny_builtin FB.initEntry ?_⟩
  exact exc_init_tree (cls := .ref C) (t0 := t0) (dv := dv) (c2 := c2) (c3 := .none) (b4 := .bool false) he hz fun h' k e _ => fin h' k e
end
end XO
end PySem
set_option Elab.async false
set_option linter.all false
set_option maxRecDepth 100000
set_option maxHeartbeats 4000000
namespace PySem
namespace XO
open PySem.W PySem.Calls PyProof.Rows PySem.HandSPX L2
/-- what is said of a def __init__ of the class at D: its closure holds D -/
structure Ini (prog : Program) (K : Frag) (D f : Addr) (qual : Str) (ps : Arguments) (body : List Stmt) (scope : Scope) (cc cda : Addr) (fd : FuncData) : Prop where
  fn : ∃ (oc : Value) (od : Option Addr) (doc pm : Value) (an : Option Addr) (ct : Value) (osl : Array (Option Value)), fd = ksFn "__init__" qual ps body scope .none .none doc pm an (.ref cda) ct cc ∧ K.lookup f = some ⟨oc, od, .func fd, osl⟩
  cd : codeIn K (.ref cda) qual = true
  cell : ∃ cl cld csl, K.lookup cc = some ⟨cl, cld, .cell (some (.ref D)), csl⟩
  code : ∃ ccl cdd vs ccs file tf, K.lookup cda = some ⟨ccl, cdd, .fields vs, ccs⟩ ∧ vs[2]? = some (.str file tf) ∧ ((prog.main.file : Str) == file) = true
  self : ∃ ar, (ps.posonlyargs ++ ps.args).head? = some ar ∧ ar.arg = ("self" : Str)
  ks : scope.names.lookup ("super" : Str) = some .globalImplicit
  kc : scope.names.lookup ("__class__" : Str) = some .free
  ka : scope.names.lookup ("self" : Str) = some .local
  kd : scope.kind = .function
  nc : ∀ x ∈ scope.names, x.2 ≠ .cell
  co : scope.isCoroutine = false
  ge : scope.isGenerator = false
  ia : ∀ L, interactive (ksEnv qual scope L f (.ref cda) cc) = false
section
variable {prog : Program} {w : World} {A : Around} {E : Value → Shared → Prop} {K : Frag} {mg : Str → Option Value} {base : Heap} {hh : Heap} {g : Array GenState} {d : Drawn} {t : Nat} {os : OsState}
variable {D C f cc cda x L : Addr} {qual : Str} {ps : Arguments} {body : List Stmt} {scope : Scope} {fd : FuncData} {m : Str → Option Value}
/-- super() -/
theorem sup_node (T : Ini prog K D f qual ps body scope cc cda fd) (Md : Mod K mg base) (bk : ∀ b o, base.get? b = some o → hh.get? b = some o) (hms : mg "super" = none) (htop : (prog.main.scope.names.lookup ("super" : Str)).isSome = false)
    {cdD : ClassData} {ox : Obj} {od : Option Obj} (hD : clsIn K D = some cdD) (hsub : mroIn K C (.ref D) = some true) (hn : hh.Ns L m) (hv : m "self" = some (.ref x)) (I : InstAt hh x ox C od) {p0 p1 : Pos} {whole : Sem Value} {Q : Value → Shared → Prop} {bd : List Stmt}
    (h : ∀ h', h'.get? hh.objs.size = some (ks_superObj D x C) → (∀ b o, hh.get? b = some o → h'.get? b = some o) → Q (.ref hh.objs.size) ⟨h', g, d, t, os⟩) :
    _root_.PySem.wpAt (model prog w) A (.func bd (ksEnv qual scope L f (.ref cda) cc)) (attributeBase (.Call (.Name "super" p0) [] [] p1) "__init__" (ksEnv qual scope L f (.ref cda) cc) whole) Q E ⟨hh, g, d, t, os⟩ := by
  have X : K.In hh := Md.kin.keeps bk
  obtain ⟨oc, odf, doc, pm, an, ct, osl, rfl, hf⟩ := T.fn
  obtain ⟨cl, cld, csl, hcell⟩ := T.cell
  obtain ⟨ccl, cdd, vs, ccs, file, tf, hcode, hvs, hfile⟩ := T.code
  obtain ⟨ar, har, ear⟩ := T.self
  obtain ⟨mb, hb1, hb2⟩ := Md.blt
  obtain ⟨oD, hD1, hD2⟩ : ∃ oD, hh.get? D = some oD ∧ oD.data = .cls cdD := by
    unfold clsIn at hD
    split at hD
    · rename_i c d cd' sl ho
      cases hD
      exact ⟨_, X _ _ ho, rfl⟩
    · cases hD
  refine ks_wpAt_super_base (env := ksEnv qual scope L f (.ref cda) cc) T.ks T.kc rfl rfl (X _ _ hf) rfl har rfl (X _ _ hcode) rfl hvs hfile htop ?_
  refine ks_loadName_global T.kd T.ks (loadGlobal_builtin (env := ksEnv qual scope L f (.ref cda) cc) (Md.glob.keeps bk) hms (hb1.keeps bk) ((hb2 _ (by decide)).trans (by decide +kernel)) ⟨rfl, ?_⟩)
  refine wpAny_loadName_free T.kd T.kc rfl ⟨_, X _ _ hcell, rfl⟩ ?_
  rw [ear]
  refine wpAny_loadName_local T.kd T.ka hn hv ?_
  refine ks_wpAny_isType_cls hD1 hD2 ⟨rfl, ?_⟩
  refine ks_wpAny_call_super hD1 hD2 I.at_ I.cls (fun c e => ?_) (looks_mroIn X hsub) (fun h' e k => h h' e k)
  have := I.no
  unfold notCls at this
  rw [e] at this
  exact Bool.noConfusion this
/-- an argument: told by the frame's names alone -/
def Sim (prog : Program) (w : World) (A : Around) (env : Env) (L : Addr) (m : Str → Option Value) (e : Expr) (P : Value → Prop) : Prop := ∀ (s : Shared) (Q : Value → Shared → Prop) (E : Value → Shared → Prop), s.heap.Ns L m → (∀ v tk, P v → Q v { s with toks := tk }) → wpAny (model prog w) A (eval e env) Q E s
theorem sim_name {name : Str} {a : Addr} {cd : Value} {cl : List (Str × Addr)} {y : Str} {v : Value} {pos : Pos} (hk : scope.kind = .function) (hl : scope.names.lookup y = some .local) (hv : m y = some v) (hd : (y == ("__debug__" : Str)) = false) :
    Sim prog w A (envX name scope L a cd cl) L m (.Name y pos) (· = v) := fun s Q E hn h => wpAny_Name (wpAny_loadName_local hk hl hn hv (h v s.toks rfl)) hd
theorem sim_str {env : Env} {y : Str} {k : Nat} {pos : Pos} : Sim prog w A env L m (.Constant (.str y) k pos) (fun v => ∃ t, v = .str y t) := fun s Q E _ h => wpAny_Constant_str (h _ _ ⟨_, rfl⟩)
/-- super().__init__(e), the one of a built-in error -/
theorem sup_mw {B i newId : String} {bmB : List Value} (KF : KxsFacts B i) (FB : ExcBaseFacts B newId i bmB) (qI : excInitIn K C bmB newId = true) (hno : nsIn K cStatics "thirdparty.any" = some none)
    (hm : ks_superIn K C D "__init__" = some (some (.builtin i))) (hB : subIn K (.ref C) (.type B) = some true)
    (T : Ini prog K D f qual ps body scope cc cda fd) (Md : Mod K mg base) (bk : ∀ b o, base.get? b = some o → hh.get? b = some o) (hms : mg "super" = none) (htop : (prog.main.scope.names.lookup ("super" : Str)).isSome = false)
    {cdD : ClassData} {t0 : Addr} (hD : clsIn K D = some cdD) (hsub : mroIn K C (.ref D) = some true) (hn : hh.Ns L m) (hv : m "self" = some (.ref x)) (hx : hh.get? x = some (excObj C t0 none .none)) {p0 p1 p2 p3 : Pos} {e : Expr} {P : Value → Prop} {Q : Value → Shared → Prop} {bd : List Stmt} {pl : Sem Bool}
    (hxb : base.get? x = none) (hxL : L ≠ x) (he : Sim prog w A (ksEnv qual scope L f (.ref cda) cc) L m e P) (hse : starEach [e] (ksEnv qual scope L f (.ref cda) cc) = (false, eval e (ksEnv qual scope L f (.ref cda) cc)) :: starEach [] (ksEnv qual scope L f (.ref cda) cc))
    (hev : eval (.Call (.Attribute (.Call (.Name "super" p0) [] [] p1) "__init__" p2) [e] [] p3) (ksEnv qual scope L f (.ref cda) cc) = (do
      let ov ← attributeBase (.Call (.Name "super" p0) [] [] p1) "__init__" (ksEnv qual scope L f (.ref cda) cc) (eval (.Call (.Name "super" p0) [] [] p1) (ksEnv qual scope L f (.ref cda) cc))
      standAt p2.atName
      let (f2, first) ← holding [ov] (getMethod ov "__init__" pl)
      callWith p3 f2 first (backTo p3 (starEach [e] (ksEnv qual scope L f (.ref cda) cc))) []))
    (h : ∀ h' tk t1, (∀ b o, b ≠ x → hh.get? b = some o → h'.get? b = some o) → h'.get? x = some (excObj C t1 none .none) → Q .none ⟨h', g, d, tk, os⟩) :
    _root_.PySem.wpAt (model prog w) A (.func bd (ksEnv qual scope L f (.ref cda) cc)) (eval (.Call (.Attribute (.Call (.Name "super" p0) [] [] p1) "__init__" p2) [e] [] p3) (ksEnv qual scope L f (.ref cda) cc)) Q E ⟨hh, g, d, t, os⟩ := by
  have I : InstAt hh x (excObj C t0 none .none) C none := ⟨hx, rfl, rfl, trivial⟩
  refine ks_wpAt_MethodCall ?_ hev
  refine sup_node T Md bk hms htop hD hsub hn hv I fun h1 e1 k1 => ?_
  have X1 : K.In h1 := (Md.kin.keeps bk).keeps k1
  have I1 : InstAt h1 x (excObj C t0 none .none) C none := ⟨k1 _ _ hx, rfl, rfl, trivial⟩
  cases hc : clsIn K C with
  | none => unfold ks_superIn at hm; rw [hc] at hm; cases hm
  | some cd =>
    unfold ks_superIn at hm
    rw [hc] at hm
    refine kxs_getMethod KF e1 (looks_opaque X1 hno) (l₀ := cd.mro) (fun A Q E s k q => wpAny_bind ((looks_clsIn X1 hc) A _ E s k (wpAny_pure q))) rfl X1 hm (I1.type.andThen (looks_subIn X1 hB)) (ks_ne X1 I1 hc) rfl ?_
    have k2 : ∀ b o, h1.get? b = some o → (h1.push (kxs_mw i x)).get? b = some o := fun b o z => Heap.get?_push_of_some _ z
    have hu : (h1.push (kxs_mw i x)).get? h1.objs.size = some (kxs_mw i x) := Heap.get?_push_at rfl rfl
    rw [hse]
    refine kxs_callWith (i := i) (x := x) rfl (evalArgs_plain (spliced_cons (he _ _ _ ((hn.keeps k1).keeps k2) fun v tk pv => ?_)))
    refine spliced_nil ⟨hu, ?_⟩
    refine call_mw ((X1.keeps k2)) FB qI hu (k2 _ _ (k1 _ _ hx)) (by rw [sizeLine_eq]; exact (by decide : 1 ≤ 16777216)) fun h' k3 e3 => ?_
    exact h h' _ _ (fun b o hb z => k3 b o hb (k2 _ _ (k1 _ _ z))) e3
end
end XO
end PySem
set_option Elab.async false
set_option linter.all false
set_option maxRecDepth 100000
set_option maxHeartbeats 4000000
namespace PySem
namespace XO
open PySem.W PySem.Calls PyProof.Rows PySem.HandSPX L2
/-- what is said of an error class -/
structure ExC (K : Frag) (C : Addr) (B newId i : String) (bmB : List Value) : Prop where
  kf : KxsFacts B i
  fb : ExcBaseFacts B newId i bmB
  st : StoreFacts B bmB "object.__setattr__" "object"
  qI : excInitIn K C bmB newId = true
  cd : ∃ cd, clsIn K C = some cd ∧ excTail bmB cd.mro = true ∧ cd.mro.isEmpty = false ∧ cd.hasDict = true
  sa : findIn K (.ref C) "__setattr__" = some (some (.builtin "object.__setattr__"))
  sB : subIn K (.ref C) (.type B) = some true
  no : nsIn K cStatics "thirdparty.any" = some none
abbrev supC (p0 p1 p2 p3 : Pos) (e : Expr) : Expr := .Call (.Attribute (.Call (.Name "super" p0) [] [] p1) "__init__" p2) [e] [] p3
abbrev setS (f : Str) (q0 q1 q2 : Pos) (e : Expr) : Stmt := .Assign [.Attribute (.Name "self" q0) f q1] e q2
abbrev exq (C t1 : Addr) (d : Option Addr) : Obj := { cls := .ref C, dict := d, data := .fields #[.ref t1, .none, .none, .none, .bool false, .none] }
section
variable {prog : Program} {w : World} {A : Around} {E : Value → Shared → Prop} {K : Frag} {mg : Str → Option Value} {base : Heap} {s : Shared} {R : Result → Shared → Prop}
variable {D C f cc cda x L : Addr} {qual : Str} {ps : Arguments} {body : List Stmt} {scope : Scope} {fd : FuncData} {m : Str → Option Value} {B newId i : String} {bmB : List Value}
/-- the frame of an __init__ -/
theorem init_frame (T : Ini prog K D f qual ps body scope cc cda fd) (X : K.In s.heap) (hlim : s.heap.NoLimit) (hroom : A.depth < recursionLimit) {args : Args} {binds : List (Str × Value)} (hbind : BindsTo s fd args binds) (hloc : ∀ y ∈ binds, scope.names.lookup y.1 = some .local)
    (h : ∀ h₀, h₀.Ns s.heap.objs.size (fun y => binds.reverse.lookup y) → (∀ b o, s.heap.get? b = some o → h₀.get? b = some o) →
      _root_.PySem.wpAt (model prog w) (A.deeper (ksEnv qual scope s.heap.objs.size f (.ref cda) cc)) (.func body (ksEnv qual scope s.heap.objs.size f (.ref cda) cc)) (execs body (ksEnv qual scope s.heap.objs.size f (.ref cda) cc)) (fun fl s' => R (.ok (.ret (match fl with | .ret v => v | _ => .none))) s')
        (fun e s' => wpAny (model prog w) (A.deeper (ksEnv qual scope s.heap.objs.size f (.ref cda) cc)) (leaving (ksEnv qual scope s.heap.objs.size f (.ref cda) cc) e) (fun _ s'' => R (.error e) s'') (fun e' s'' => R (.error e') s'') s')
        { s with heap := h₀, toks := s.toks + binds.length }) : codeAny (model prog w) A (.call (.ref f) args) R s := by
  obtain ⟨oc, odf, doc, pm, an, ct, osl, rfl, hf⟩ := T.fn
  exact ks_codeAny_call_defAt hroom (X _ _ hf) rfl hlim (codeRec_of X T.cd) rfl hbind T.nc hloc h T.co T.ge T.kd
/-- self.f = e, the first field -/
theorem set_first (EC : ExC K C B newId i bmB) {name : Str} (na : findIn K (.ref C) name = some none) {env : Env} {hh : Heap} {g : Array GenState} {d : Drawn} {t : Nat} {os : OsState} {t1 : Addr} {P : Value → Prop} {e : Expr} {q0 q1 q2 : Pos} {rest : List Stmt} {Q : Flow → Shared → Prop} (X : K.In hh) (hn : hh.Ns L m) (hx : hh.get? x = some (exq C t1 none))
    (he : Sim prog w A env L m e P) (hs : Sim prog w A env L m (.Name "self" q0) (· = .ref x)) (hsw : swapsWith e (some (.Attribute (.Name "self" q0) name q1)) q2.line env = pure false)
    (h : ∀ h' tk dx v, P v → (∀ b o, b ≠ x → hh.get? b = some o → h'.get? b = some o) → hh.objs.size ≤ dx → dx ≠ x → h'.get? x = some (exq C t1 (some dx)) → h'.Ns1 dx (fun y => if y = name then some v else none) → wpAny (model prog w) A (execs rest env) Q E ⟨h', g, d, tk, os⟩) :
    wpAny (model prog w) A (execs (setS name q0 q1 q2 e :: rest) env) Q E ⟨hh, g, d, t, os⟩ := by
  obtain ⟨cd, hcd, ht, hne, hd⟩ := EC.cd
  refine wpAny_execs_cons (plainObj_wpAny_Assign_Attribute ?_ hsw)
  refine he _ _ _ hn fun v tk pv => hs _ _ _ hn fun u tk2 eu => ?_
  subst eu
  refine set_plain X (ox := exq C t1 none) (od := none) ⟨hx, rfl, rfl, trivial⟩ EC.sa ?_
  exact osa_new EC.st X hx hcd ht hne hd na fun h' tk' dx k b ne e1 n1 => h h' tk' dx v pv k b ne e1 n1
/-- a further field -/
theorem set_more (EC : ExC K C B newId i bmB) {name : Str} (na : findIn K (.ref C) name = some none) {env : Env} {hh : Heap} {g : Array GenState} {d : Drawn} {t : Nat} {os : OsState} {t1 dx : Addr} {P : Value → Prop} {e : Expr} {q0 q1 q2 : Pos} {rest : List Stmt} {Q : Flow → Shared → Prop} {m0 : Str → Option Value} {nl : List Str} (X : K.In hh) (hn : hh.Ns L m) (hx : hh.get? x = some (exq C t1 (some dx)))
    (hns : hh.Ns1 dx m0) (hw : Within m0 nl) (hz : nl.length ≤ 1000) (he : Sim prog w A env L m e P) (hs : Sim prog w A env L m (.Name "self" q0) (· = .ref x)) (hsw : swapsWith e (some (.Attribute (.Name "self" q0) name q1)) q2.line env = pure false)
    (h : ∀ h' tk v, P v → (∀ b o, b ≠ dx → hh.get? b = some o → h'.get? b = some o) → h'.Ns1 dx (fun y => if y = name then some v else m0 y) → wpAny (model prog w) A (execs rest env) Q E ⟨h', g, d, tk, os⟩) :
    wpAny (model prog w) A (execs (setS name q0 q1 q2 e :: rest) env) Q E ⟨hh, g, d, t, os⟩ := by
  obtain ⟨cd, hcd, ht, hne, hd⟩ := EC.cd
  obtain ⟨oD, esD, epD, hoD, hdD, _⟩ := hns.count hw
  refine wpAny_execs_cons (plainObj_wpAny_Assign_Attribute ?_ hsw)
  refine he _ _ _ hn fun v tk pv => hs _ _ _ hn fun u tk2 eu => ?_
  subst eu
  refine set_plain X (ox := exq C t1 (some dx)) (od := some oD) ⟨hx, rfl, rfl, hoD⟩ EC.sa ?_
  exact osa_more EC.st X hx hns hw hz hcd ht hne hd na fun h' tk' k n1 => h h' tk' v pv k n1
/-- what an __init__ leaves: of the object at x and its dict -/
structure Done (h h' : Heap) (x C dx : Addr) (mA : Str → Option Value) : Prop where
  keep : ∀ b o, b ≠ x → h.get? b = some o → h'.get? b = some o
  obj : ∃ t1, h'.get? x = some (exq C t1 (some dx))
  big : h.objs.size ≤ dx
  ne : dx ≠ x
  ns : h'.Ns1 dx mA
/-- super().__init__(e); self.code = e2 -/
theorem base_init (EC : ExC K C B newId i bmB) (na : findIn K (.ref C) "code" = some none) {p0 p1 p2 p3 p4 q0 q1 q2 : Pos} {e e2 : Expr} (T : Ini prog K D f qual ps [.Expr (supC p0 p1 p2 p3 e) p4, setS "code" q0 q1 q2 e2] scope cc cda fd) (Md : Mod K mg base) (bk : ∀ b o, base.get? b = some o → s.heap.get? b = some o) (hms : mg "super" = none) (htop : (prog.main.scope.names.lookup ("super" : Str)).isSome = false)
    (hm : ks_superIn K C D "__init__" = some (some (.builtin i))) {cdD : ClassData} (hD : clsIn K D = some cdD) (hsub : mroIn K C (.ref D) = some true) (hlim : s.heap.NoLimit) (hroom : A.depth < recursionLimit) {args : Args} {binds : List (Str × Value)} (hbind : BindsTo s fd args binds) (hloc : ∀ y ∈ binds, scope.names.lookup y.1 = some .local)
    (hself : (binds.reverse.lookup ("self" : Str)) = some (.ref x)) {t0 : Addr} (hx : s.heap.get? x = some (excObj C t0 none .none)) (hxb : base.get? x = none) {P P2 : Value → Prop} {pl : Addr → Sem Bool}
    (he : ∀ L, Sim prog w (A.deeper (ksEnv qual scope L f (.ref cda) cc)) (ksEnv qual scope L f (.ref cda) cc) L (fun y => binds.reverse.lookup y) e P) (he2 : ∀ L, Sim prog w (A.deeper (ksEnv qual scope L f (.ref cda) cc)) (ksEnv qual scope L f (.ref cda) cc) L (fun y => binds.reverse.lookup y) e2 P2)
    (hse : ∀ L, starEach [e] (ksEnv qual scope L f (.ref cda) cc) = (false, eval e (ksEnv qual scope L f (.ref cda) cc)) :: starEach [] (ksEnv qual scope L f (.ref cda) cc))
    (hev : ∀ L, eval (supC p0 p1 p2 p3 e) (ksEnv qual scope L f (.ref cda) cc) = (do
      let ov ← attributeBase (.Call (.Name "super" p0) [] [] p1) "__init__" (ksEnv qual scope L f (.ref cda) cc) (eval (.Call (.Name "super" p0) [] [] p1) (ksEnv qual scope L f (.ref cda) cc))
      standAt p2.atName
      let (f2, first) ← holding [ov] (getMethod ov "__init__" (pl L))
      callWith p3 f2 first (backTo p3 (starEach [e] (ksEnv qual scope L f (.ref cda) cc))) []))
    (hsw1 : ∀ L, swapsWith (supC p0 p1 p2 p3 e) none p4.line (ksEnv qual scope L f (.ref cda) cc) = pure false) (hsw2 : ∀ L, swapsWith e2 (some (.Attribute (.Name "self" q0) "code" q1)) q2.line (ksEnv qual scope L f (.ref cda) cc) = pure false)
    (hq : ∀ h' tk dx v, P2 v → Done s.heap h' x C dx (fun y => if y = "code" then some v else none) → R (.ok (.ret .none)) { s with heap := h', toks := tk }) :
    codeAny (model prog w) A (.call (.ref f) args) R s := by
  have X : K.In s.heap := Md.kin.keeps bk
  refine init_frame T X hlim hroom hbind hloc fun h0 hn k0 => ?_
  obtain ⟨hp, g, d, tk0, os⟩ := s
  have hxL : hp.objs.size ≠ x := Nat.ne_of_gt (Heap.lt_size hx)
  refine ks_wpAt_execs_cons (ks_wpAt_Expr_any ?_ (T.ia _) (hsw1 _))
  refine sup_mw EC.kf EC.fb EC.qI EC.no hm EC.sB T Md (fun b o z => k0 b o (bk b o z)) hms htop hD hsub hn hself (k0 _ _ hx) hxb hxL (he _) (hse _) (hev _) fun h1 tk1 t1 k1 e1 => ?_
  show _root_.PySem.wpAt _ _ _ (execs _ _) _ _ _
  refine wpAt_of_wpAny ?_
  have X1 : K.In h1 := fun a o z => k1 a o (fun ea => by
    have := Md.kin _ _ z
    rw [ea, hxb] at this; cases this) (k0 _ _ (X _ _ z))
  have hn1 : h1.Ns hp.objs.size (fun y => binds.reverse.lookup y) := hn.at fun o z => k1 _ o hxL z
  refine set_first EC na X1 hn1 e1 (he2 _) (sim_name T.kd T.ka hself (by decide)) (hsw2 _) fun h2 tk2 dx v pv k2 b2 n2 e2 ns2 => ?_
  refine wpAny_execs_nil (hq h2 tk2 dx v pv ⟨fun b o hb z => k2 b o hb (k1 b o hb (k0 b o z)), ⟨t1, e2⟩, ?_, n2, ns2⟩)
  have z1 : hp.objs.size < h1.objs.size := hn1.lt
  exact Nat.le_of_lt (Nat.lt_of_lt_of_le z1 b2)
end
end XO
end PySem
set_option Elab.async false
set_option linter.all false
set_option maxRecDepth 100000
set_option maxHeartbeats 4000000
namespace PySem
namespace XO
open PySem.W PySem.Calls PyProof.Rows PySem.HandSPX L2
section
variable {prog : Program} {w : World} {A : Around} {E : Value → Shared → Prop} {K : Frag} {mg : Str → Option Value} {base : Heap} {hh : Heap} {g : Array GenState} {d : Drawn} {t : Nat} {os : OsState}
variable {D C f f2 cc cda x L : Addr} {qual : Str} {ps : Arguments} {body : List Stmt} {scope : Scope} {fd : FuncData} {m : Str → Option Value}
/-- super().__init__(e), the one of a class of the text -/
theorem sup_fn (hno : nsIn K cStatics "thirdparty.any" = some none) (hm : ks_superIn K C D "__init__" = some (some (.ref f2))) (ht : typeIn K (.ref f2) = some (.type "function")) (hfn : fnIn K f2 = true)
    (T : Ini prog K D f qual ps body scope cc cda fd) (Md : Mod K mg base) (bk : ∀ b o, base.get? b = some o → hh.get? b = some o) (hms : mg "super" = none) (htop : (prog.main.scope.names.lookup ("super" : Str)).isSome = false)
    {cdD : ClassData} {t0 : Addr} (hD : clsIn K D = some cdD) (hsub : mroIn K C (.ref D) = some true) (hn : hh.Ns L m) (hv : m "self" = some (.ref x)) (hx : hh.get? x = some (excObj C t0 none .none)) {p0 p1 p2 p3 : Pos} {e : Expr} {P : Value → Prop} {Q : Value → Shared → Prop} {bd : List Stmt} {pl : Sem Bool}
    (he : Sim prog w A (ksEnv qual scope L f (.ref cda) cc) L m e P) (hse : starEach [e] (ksEnv qual scope L f (.ref cda) cc) = (false, eval e (ksEnv qual scope L f (.ref cda) cc)) :: starEach [] (ksEnv qual scope L f (.ref cda) cc))
    (hev : eval (supC p0 p1 p2 p3 e) (ksEnv qual scope L f (.ref cda) cc) = (do
      let ov ← attributeBase (.Call (.Name "super" p0) [] [] p1) "__init__" (ksEnv qual scope L f (.ref cda) cc) (eval (.Call (.Name "super" p0) [] [] p1) (ksEnv qual scope L f (.ref cda) cc))
      standAt p2.atName
      let (f2, first) ← holding [ov] (getMethod ov "__init__" pl)
      callWith p3 f2 first (backTo p3 (starEach [e] (ksEnv qual scope L f (.ref cda) cc))) []))
    (h : ∀ h' tk v, P v → (∀ b o, hh.get? b = some o → h'.get? b = some o) → codeAny (model prog w) A (.call (.ref f2) ⟨[.ref x, v], []⟩) (fun r s' => match r with | .ok (.ret u) => Q u s' | .ok _ => False | .error e => E e s') ⟨h', g, d, tk, os⟩) :
    _root_.PySem.wpAt (model prog w) A (.func bd (ksEnv qual scope L f (.ref cda) cc)) (eval (supC p0 p1 p2 p3 e) (ksEnv qual scope L f (.ref cda) cc)) Q E ⟨hh, g, d, t, os⟩ := by
  have I : InstAt hh x (excObj C t0 none .none) C none := ⟨hx, rfl, rfl, trivial⟩
  refine ks_wpAt_MethodCall ?_ hev
  refine sup_node T Md bk hms htop hD hsub hn hv I fun h1 e1 k1 => ?_
  have X1 : K.In h1 := (Md.kin.keeps bk).keeps k1
  have I1 : InstAt h1 x (excObj C t0 none .none) C none := ⟨k1 _ _ hx, rfl, rfl, trivial⟩
  cases hc : clsIn K C with
  | none => unfold ks_superIn at hm; rw [hc] at hm; cases hm
  | some cd =>
    unfold ks_superIn at hm
    rw [hc] at hm
    obtain ⟨of, hof, hofc⟩ : ∃ of, h1.get? f2 = some of ∧ of.cls = .type "function" := by
      have ht' : (K.lookup f2).map (·.cls) = some (.type "function") := ht
      cases z : K.lookup f2 with
      | none => rw [z] at ht'; cases ht'
      | some of => rw [z] at ht'; exact ⟨of, X1 _ _ z, Option.some.inj ht'⟩
    refine ks_wpAny_getMethod_super e1 (looks_opaque X1 hno) (l₀ := cd.mro) (fun A Q E s k q => wpAny_bind ((looks_clsIn X1 hc) A _ E s k (wpAny_pure q))) rfl X1 hm hof hofc (ks_ne X1 I1 hc) rfl ?_
    have k2 : ∀ b o, h1.get? b = some o → (h1.push (methodObj (.ref f2) (.ref x))).get? b = some o := fun b o z => Heap.get?_push_of_some _ z
    have hu : (h1.push (methodObj (.ref f2) (.ref x))).get? h1.objs.size = some (methodObj (.ref f2) (.ref x)) := Heap.get?_push_at rfl rfl
    rw [hse]
    refine callWith_of (P := MethP K h1.objs.size f2 (.ref x)) (by first | rfl | decide) (keeps_M hfn) (evalArgs_plain (spliced_cons (he _ _ _ ((hn.keeps k1).keeps k2) fun v tk pv => ?_)))
    refine spliced_nil ⟨⟨hu, X1.keeps k2⟩, ?_⟩
    refine wpAny_call (codeAny_mono (method_call hu (h _ tk v pv fun b o z => k2 _ _ (k1 _ _ z))) fun r s' z => ?_)
    rcases r with e | (v | _ | _ | _) <;> first | exact z | exact z.elim
end
end XO
end PySem
set_option Elab.async false
set_option linter.all false
set_option maxRecDepth 100000
set_option maxHeartbeats 4000000
namespace PySem
namespace XO
open PySem.W PySem.Calls PyProof.Rows PySem.HandSPX L2
/-- an __init__ with the values us leaves the attributes that M tells -/
def InitOk (prog : Program) (w : World) (K : Frag) (mg : Str → Option Value) (base : Heap) (n : Nat) (C f : Addr) (us : List Value) (M : (Str → Option Value) → Prop) : Prop :=
  ∀ (A : Around) (R : Result → Shared → Prop) (s : Shared) (x t0 : Addr), (∀ b o, base.get? b = some o → s.heap.get? b = some o) → s.heap.NoLimit → A.depth + n < recursionLimit → s.heap.get? x = some (excObj C t0 none .none) → base.get? x = none →
    (∀ h' tk dx mA, M mA → Done s.heap h' x C dx mA → R (.ok (.ret .none)) { s with heap := h', toks := tk }) → codeAny (model prog w) A (.call (.ref f) ⟨.ref x :: us, []⟩) R s
/-- a made error -/
structure Made (h h' : Heap) (e C d : Addr) (mA : Str → Option Value) : Prop where
  keep : ∀ b o, h.get? b = some o → h'.get? b = some o
  new : h.objs.size ≤ e
  obj : ∃ t1, h'.get? e = some (exq C t1 (some d))
  dbig : h.objs.size ≤ d
  dne : d ≠ e
  ns : h'.Ns1 d mA
section
variable {prog : Program} {w : World} {A : Around} {E : Value → Shared → Prop} {K : Frag} {mg : Str → Option Value} {base : Heap} {s : Shared} {R : Result → Shared → Prop}
variable {C f f2 cc cda : Addr} {qual : Str} {ps : Arguments} {scope : Scope} {fd : FuncData} {B newId i : String} {bmB : List Value}
theorem made (EC : ExC K C B newId i bmB) {fI : Addr} {us : List Value} {M : (Str → Option Value) → Prop} {n : Nat} (Md : Mod K mg base) (iC : findIn K (.ref C) "__init__" = some (some (.ref fI))) (tC : typeIn K (.ref fI) = some (.type "function")) (hz : us.length ≤ sizeLine)
    (IO : InitOk prog w K mg base n C fI us M) (bk : ∀ b o, base.get? b = some o → s.heap.get? b = some o) (hlim : s.heap.NoLimit) (hroom : A.depth + (n + 1) < recursionLimit)
    (hq : ∀ h' tk e d mA, M mA → Made s.heap h' e C d mA → R (.ok (.ret (.ref e))) { s with heap := h', toks := tk }) : codeAny (model prog w) A (.call (.ref C) ⟨us, []⟩) R s := by
  have X : K.In s.heap := Md.kin.keeps bk
  obtain ⟨nm, N', qn, bs, bm, hdct, sn, sub, ab, col, dd, k0, k1, k2, k3, k5, hC, hT⟩ := excInit_of X EC.qI
  obtain ⟨hp, g, dr, tk, os⟩ := s
  have k : ∀ b o, hp.get? b = some o → ((hp.push (kdv_tup us)).push (excO C hp.objs.size)).get? b = some o := fun b o e => Heap.get?_push_of_some _ (Heap.get?_push_of_some _ e)
  have hget : ((hp.push (kdv_tup us)).push (excO C hp.objs.size)).get? (hp.objs.size + 1) = some (excO C hp.objs.size) := by heap_get
  have hxb : base.get? (hp.objs.size + 1) = none := by
    cases e : base.get? (hp.objs.size + 1) with
    | none => rfl
    | some o => exact absurd (Nat.lt_of_succ_lt (Heap.lt_size (bk _ _ e))) (Nat.lt_irrefl _)
  refine call_own EC.fb hT hC (looks_findIn X iC) (fun self => bind_fn X self tC) hz ?_
  refine IO _ _ ⟨(hp.push (kdv_tup us)).push (excO C hp.objs.size), g, dr, tk, os⟩ (hp.objs.size + 1) hp.objs.size (fun b o z => k b o (bk b o z)) (hlim.keeps k) (by show A.depth + 1 + n < recursionLimit; omega) hget hxb fun h' tk' dx mA hM ⟨k', hx, dn, dne, hns⟩ => ?_
  have old : ∀ b o, hp.get? b = some o → h'.get? b = some o := fun b o e => k' b o (Nat.ne_of_lt (Nat.lt_succ_of_lt (Heap.lt_size e))) (k b o e)
  have z : hp.objs.size + 1 + 1 ≤ dx := by
    first
      | (simpa only [Heap.size_push] using dn)
      | exact dn
      | (have q := dn; rw [Heap.size_push, Heap.size_push] at q; exact q)
  exact ⟨rfl, hq h' tk' (hp.objs.size + 1) dx mA hM ⟨old, Nat.le_succ _, hx, Nat.le_trans (Nat.le_trans (Nat.le_succ _) (Nat.le_succ _)) z, dne, hns⟩⟩
/-- super().__init__(e), then the rest -/
theorem sub_init (EC : ExC K C B newId i bmB) {us : List Value} {p0 p1 p2 p3 p4 : Pos} {e : Expr} {rest : List Stmt} (T : Ini prog K C f qual ps (.Expr (supC p0 p1 p2 p3 e) p4 :: rest) scope cc cda fd) (Md : Mod K mg base) (hms : mg "super" = none) (htop : (prog.main.scope.names.lookup ("super" : Str)).isSome = false)
    (hm : ks_superIn K C C "__init__" = some (some (.ref f2))) (ht : typeIn K (.ref f2) = some (.type "function")) (hfn : fnIn K f2 = true) (hsub : mroIn K C (.ref C) = some true) {bs : Value → List (Str × Value)} (hbind : ∀ s x, BindsTo s fd ⟨x :: us, []⟩ (bs x)) (hloc : ∀ x, ∀ y ∈ bs x, scope.names.lookup y.1 = some .local)
    (hself : ∀ x, ((bs x).reverse.lookup ("self" : Str)) = some x) {P : Value → Prop} {pl : Addr → Sem Bool} {M : (Str → Option Value) → Prop} {n : Nat}
    (he : ∀ A L x, Sim prog w A (ksEnv qual scope L f (.ref cda) cc) L (fun y => (bs x).reverse.lookup y) e P)
    (hse : ∀ L, starEach [e] (ksEnv qual scope L f (.ref cda) cc) = (false, eval e (ksEnv qual scope L f (.ref cda) cc)) :: starEach [] (ksEnv qual scope L f (.ref cda) cc))
    (hev : ∀ L, eval (supC p0 p1 p2 p3 e) (ksEnv qual scope L f (.ref cda) cc) = (do
      let ov ← attributeBase (.Call (.Name "super" p0) [] [] p1) "__init__" (ksEnv qual scope L f (.ref cda) cc) (eval (.Call (.Name "super" p0) [] [] p1) (ksEnv qual scope L f (.ref cda) cc))
      standAt p2.atName
      let (f2, first) ← holding [ov] (getMethod ov "__init__" (pl L))
      callWith p3 f2 first (backTo p3 (starEach [e] (ksEnv qual scope L f (.ref cda) cc))) []))
    (hsw1 : ∀ L, swapsWith (supC p0 p1 p2 p3 e) none p4.line (ksEnv qual scope L f (.ref cda) cc) = pure false)
    (BO : ∀ v, P v → InitOk prog w K mg base n C f2 [v] (fun mA => mA = fun (y : Str) => if y = "code" then some v else none))
    (hr : ∀ (A : Around) (E : Value → Shared → Prop) (Q : Flow → Shared → Prop) (L x t1 dx : Addr) (v : Value) (hh : Heap) (g : Array GenState) (d : Drawn) (t : Nat) (os : OsState), P v → K.In hh → hh.Ns L (fun y => (bs (.ref x)).reverse.lookup y) → hh.get? x = some (exq C t1 (some dx)) → dx ≠ L → x ≠ L → dx ≠ x → K.lookup dx = none → hh.Ns1 dx (fun y => if y = "code" then some v else none) →
      (∀ h' tk mA, M mA → (∀ b o, b ≠ dx → hh.get? b = some o → h'.get? b = some o) → h'.Ns1 dx mA → Q .next ⟨h', g, d, tk, os⟩) → wpAny (model prog w) A (execs rest (ksEnv qual scope L f (.ref cda) cc)) Q E ⟨hh, g, d, t, os⟩) :
    InitOk prog w K mg base (n + 1) C f us M := by
  intro A R s x t0 bk hlim hroom hx hxb hq
  have X : K.In s.heap := Md.kin.keeps bk
  obtain ⟨cd, hcd, _⟩ := EC.cd
  refine init_frame T X hlim (by omega) (hbind s (.ref x)) (hloc (.ref x)) fun h0 hn k0 => ?_
  obtain ⟨hp, g, d, tk0, os⟩ := s
  have hxL : hp.objs.size ≠ x := Nat.ne_of_gt (Heap.lt_size hx)
  refine ks_wpAt_execs_cons (ks_wpAt_Expr_any ?_ (T.ia _) (hsw1 _))
  refine sup_fn EC.no hm ht hfn T Md (fun b o z => k0 b o (bk b o z)) hms htop hcd hsub hn (hself _) (k0 _ _ hx) (he _ _ _) (hse _) (hev _) fun h1 tk1 v pv k1 => ?_
  refine BO v pv _ _ ⟨h1, g, d, tk1, os⟩ x t0 (fun b o z => k1 _ _ (k0 b o (bk b o z))) ((hlim.keeps k0).keeps k1) (by show A.depth + 1 + n < recursionLimit; omega) (k1 _ _ (k0 _ _ hx)) hxb fun h2 tk2 dx mA hM ⟨k2, ⟨t1, e2⟩, b2, n2, ns2⟩ => ?_
  subst hM
  show _root_.PySem.wpAt _ _ _ (execs _ _) _ _ _
  refine wpAt_of_wpAny ?_
  have hn1 : h1.Ns hp.objs.size (fun y => (bs (.ref x)).reverse.lookup y) := hn.keeps k1
  have hn2 : h2.Ns hp.objs.size (fun y => (bs (.ref x)).reverse.lookup y) := hn1.at fun o z => k2 _ o hxL z
  have bigL : hp.objs.size < h1.objs.size := hn1.lt
  have bigD : hp.objs.size < dx := Nat.lt_of_lt_of_le bigL b2
  have X2 : K.In h2 := fun a o z => k2 a o (fun ea => by
    have := Md.kin _ _ z
    rw [ea, hxb] at this; cases this) (k1 _ _ (k0 _ _ (X _ _ z)))
  have nK : K.lookup dx = none := by
    cases e : K.lookup dx with
    | none => rfl
    | some o => exact absurd (Nat.lt_trans (Heap.lt_size (X _ _ e)) bigD) (Nat.lt_irrefl _)
  refine hr _ _ _ hp.objs.size x t1 dx v h2 g d tk2 os pv X2 hn2 e2 (Nat.ne_of_gt bigD) hxL.symm n2 nK ns2 fun h3 tk3 mA hM k3 ns3 => ?_
  refine hq h3 tk3 dx mA hM ⟨fun b o hb z => k3 b o (fun eb => ?_) (k2 b o hb (k1 b o (k0 b o z))), ⟨t1, k3 _ _ n2.symm e2⟩, Nat.le_of_lt bigD, n2, ns3⟩
  rw [eb] at z
  exact absurd (Nat.lt_trans (Heap.lt_size z) bigD) (Nat.lt_irrefl _)
end
end XO
end PySem
set_option Elab.async false
set_option linter.all false
set_option maxRecDepth 100000
set_option maxHeartbeats 4000000
namespace PySem
namespace XO
open PySem.W PySem.Calls PyProof.Rows PySem.HandSPX L2
section
variable {prog : Program} {w : World} {K : Frag} {mg : Str → Option Value} {base : Heap}
variable {C D f f2 cc cda : Addr} {qual : Str} {ps : Arguments} {scope : Scope} {fd : FuncData} {B newId i : String} {bmB : List Value}
/-- def __init__(self, code): super().__init__(code); self.code = code -/
theorem base_ok (EC : ExC K C B newId i bmB) (na : findIn K (.ref C) "code" = some none) {p0 p1 p2 p3 p4 q0 q1 q2 r0 r1 : Pos} (T : Ini prog K D f qual ps [.Expr (supC p0 p1 p2 p3 (.Name "code" r0)) p4, setS "code" q0 q1 q2 (.Name "code" r1)] scope cc cda fd) (Md : Mod K mg base) (hms : mg "super" = none) (htop : (prog.main.scope.names.lookup ("super" : Str)).isSome = false)
    (hm : ks_superIn K C D "__init__" = some (some (.builtin i))) {cdD : ClassData} (hD : clsIn K D = some cdD) (hsub : mroIn K C (.ref D) = some true) (kcode : scope.names.lookup ("code" : Str) = some .local)
    {pl : Addr → Sem Bool} (hev : ∀ L, eval (supC p0 p1 p2 p3 (.Name "code" r0)) (ksEnv qual scope L f (.ref cda) cc) = (do
      let ov ← attributeBase (.Call (.Name "super" p0) [] [] p1) "__init__" (ksEnv qual scope L f (.ref cda) cc) (eval (.Call (.Name "super" p0) [] [] p1) (ksEnv qual scope L f (.ref cda) cc))
      standAt p2.atName
      let (f2, first) ← holding [ov] (getMethod ov "__init__" (pl L))
      callWith p3 f2 first (backTo p3 (starEach [(.Name "code" r0)] (ksEnv qual scope L f (.ref cda) cc))) []))
    (hbind : ∀ s x v, BindsTo s fd ⟨[x, v], []⟩ [("self", x), ("code", v)]) (v : Value) :
    InitOk prog w K mg base 0 C f [v] (fun mA => mA = fun (y : Str) => if y = "code" then some v else none) := by
  intro A R s x t0 bk hlim hroom hx hxb hq
  refine base_init EC na (P := (· = v)) (P2 := (· = v)) T Md bk hms htop hm hD hsub hlim hroom (hbind s (.ref x) v) (fun y hy => ?_) (by rfl) hx hxb (fun L => sim_name T.kd kcode rfl (by decide)) (fun L => sim_name T.kd kcode rfl (by decide)) (fun L => rfl) hev (fun L => rfl) (fun L => rfl) fun h' tk dx u hu dn => ?_
  · have hy' : y = (("self" : Str), Value.ref x) ∨ y = (("code" : Str), v) := by simpa using hy
    rcases hy' with e | e
    · rw [e]; exact T.ka
    · rw [e]; exact kcode
  · subst hu
    exact hq h' tk dx _ rfl dn
/-- def __init__(self, a): super().__init__("N"); self.a = a -/
theorem sub1_ok (EC : ExC K C B newId i bmB) {a : Str} (na : findIn K (.ref C) a = some none) {p0 p1 p2 p3 p4 r0 q0 q1 q2 r1 : Pos} {N : Str} {j0 n : Nat} (T : Ini prog K C f qual ps [.Expr (supC p0 p1 p2 p3 (.Constant (.str N) j0 r0)) p4, setS a q0 q1 q2 (.Name a r1)] scope cc cda fd) (Md : Mod K mg base) (hms : mg "super" = none) (htop : (prog.main.scope.names.lookup ("super" : Str)).isSome = false)
    (hm : ks_superIn K C C "__init__" = some (some (.ref f2))) (ht : typeIn K (.ref f2) = some (.type "function")) (hfn : fnIn K f2 = true) (hsub : mroIn K C (.ref C) = some true) (kal : scope.names.lookup a = some .local) (had : (a == ("__debug__" : Str)) = false) (has : a ≠ "self")
    {pl : Addr → Sem Bool} (hev : ∀ L, eval (supC p0 p1 p2 p3 (.Constant (.str N) j0 r0)) (ksEnv qual scope L f (.ref cda) cc) = (do
      let ov ← attributeBase (.Call (.Name "super" p0) [] [] p1) "__init__" (ksEnv qual scope L f (.ref cda) cc) (eval (.Call (.Name "super" p0) [] [] p1) (ksEnv qual scope L f (.ref cda) cc))
      standAt p2.atName
      let (f2, first) ← holding [ov] (getMethod ov "__init__" (pl L))
      callWith p3 f2 first (backTo p3 (starEach [(.Constant (.str N) j0 r0)] (ksEnv qual scope L f (.ref cda) cc))) []))
    (hbind : ∀ s x v, BindsTo s fd ⟨[x, v], []⟩ [("self", x), (a, v)]) (BO : ∀ v, InitOk prog w K mg base n C f2 [v] (fun mA => mA = fun (y : Str) => if y = "code" then some v else none)) (u : Value) :
    InitOk prog w K mg base (n + 1) C f [u] (fun mA => ∃ t, mA = fun (y : Str) => if y = a then some u else if y = "code" then some (.str N t) else none) := by
  have la : ∀ x : Value, List.lookup a [(a, u), (("self" : Str), x)] = some u := fun x => by simp [List.lookup]
  have ls : ∀ x : Value, List.lookup ("self" : Str) [(a, u), (("self" : Str), x)] = some x := fun x => by
    have : (("self" : Str) == a) = false := by simpa using fun e => has e.symm
    simp [List.lookup, this]
  refine sub_init EC (P := fun v => ∃ t, v = .str N t) (bs := fun x => [("self", x), (a, u)]) T Md hms htop hm ht hfn hsub (fun s x => hbind s x u) (fun x y hy => ?_) (fun x => ls x) (fun A L x => sim_str) (fun L => rfl) hev (fun L => rfl) (fun v _ => BO v) ?_
  · have hy' : y = (("self" : Str), x) ∨ y = (a, u) := by simpa using hy
    rcases hy' with e | e
    · rw [e]; exact T.ka
    · rw [e]; exact kal
  · intro A E Q L x t1 dx v hh g d t os ⟨tv, ev⟩ X hn hx n1 n2 n3 nK hns hq
    subst ev
    refine set_more EC na (P := (· = u)) X hn hx hns (nl := ["code"]) (Within.cons "code" (.str N tv) Within.nil) (by decide) (sim_name T.kd kal (la (.ref x)) had) (sim_name T.kd T.ka (ls (.ref x)) (by decide)) rfl fun h' tk v hv k ns => ?_
    subst hv
    exact wpAny_execs_nil (hq h' tk _ ⟨tv, rfl⟩ k ns)
end
end XO
end PySem
set_option Elab.async false
set_option linter.all false
set_option maxRecDepth 100000
set_option maxHeartbeats 4000000
namespace SN
open PySem PySem.Spec PyProof.Rows L2
/-- every slot begins a run, from anywhere -/
def Cov (m : Nat) : Prop := ∀ i j, i ≤ m → j ≤ m → ∃ k, k ≤ m ∧ lcgI m i k = j
def lg (n : Nat) : Nat → Nat → Bool
  | 0, x => x == 0
  | k + 1, x => x != 0 && lg n k ((x * 5 + 1) % n)
theorem lg_ok {m : Nat} : ∀ (k b : Nat), lg (m + 1) k (lcgN m b) = true → (∀ c, c < k → lcgN m (b + c) ≠ 0) ∧ lcgN m (b + k) = 0
  | 0, b, h => ⟨fun c hc => absurd hc (Nat.not_lt_zero _), by unfold lg at h; simpa using h⟩
  | k + 1, b, h => by
    unfold lg at h
    rw [Bool.and_eq_true] at h
    obtain ⟨h1, h2⟩ := lg_ok (m := m) k (b + 1) h.2
    have e : ∀ c, b + 1 + c = b + (c + 1) := fun c => by omega
    refine ⟨fun c hc => ?_, by rw [← e k]; exact h2⟩
    cases c with
    | zero => simpa using h.1
    | succ c => rw [← e c]; exact h1 c (by omega)
theorem cov_of {m : Nat} (hz : lg (m + 1) m 1 = true) (m0 : 0 < m) (inj : ∀ a b, a ≤ m → b ≤ m → (a * 5 + 1) % (m + 1) = (b * 5 + 1) % (m + 1) → a = b) : Cov m := by
  have e1 : lcgN m 1 = 1 := by
    show (0 * 5 + 1) % (m + 1) = 1
    rw [Nat.zero_mul, Nat.zero_add, Nat.mod_eq_of_lt (by omega)]
  obtain ⟨nz, z⟩ := lg_ok (m := m) m 1 (by rw [e1]; exact hz)
  rw [Nat.add_comm] at z
  have le : ∀ k, lcgN m k ≤ m := fun k => by
    cases k with
    | zero => exact Nat.zero_le _
    | succ k => exact Nat.le_of_lt_succ (Nat.mod_lt _ (Nat.succ_pos _))
  have back : ∀ a b, a ≤ b → lcgN m a = lcgN m b → lcgN m (b - a) = 0 := by
    intro a
    induction a with
    | zero => intro b _ h; rw [Nat.sub_zero, ← h]; rfl
    | succ a ih =>
      intro b hb h
      obtain ⟨c, rfl⟩ : ∃ c, b = c + 1 := ⟨b - 1, by omega⟩
      have := ih c (by omega) (inj _ _ (le a) (le c) h)
      rw [show c + 1 - (a + 1) = c - a by omega]
      exact this
  have dist : ∀ a b, a < b → b ≤ m → lcgN m a ≠ lcgN m b := fun a b hab hb h => by
    have := back a b (by omega) h
    refine nz (b - a - 1) (by omega) ?_
    rw [show 1 + (b - a - 1) = b - a by omega]
    exact this
  have surj : ∀ j, j ≤ m → ∃ b, b ≤ m ∧ lcgN m b = j := fun j hj => by
    rcases Classical.em (∃ b, b ≤ m ∧ lcgN m b = j) with h | h
    · exact h
    · exfalso
      have nd : ((List.range (m + 1)).map (lcgN m)).Nodup := by
        unfold List.Nodup
        rw [List.pairwise_map]
        have : (List.range (m + 1)).Pairwise (· < ·) := List.pairwise_lt_range
        exact this.imp_of_mem fun {a b} _ hb hab => dist a b hab (Nat.le_of_lt_succ (List.mem_range.mp hb))
      have q := nat_nodup_len _ ((List.range (m + 1)).erase j) nd fun x hx => by
        obtain ⟨b, hb, rfl⟩ := List.mem_map.mp hx
        have hb := Nat.le_of_lt_succ (List.mem_range.mp hb)
        exact (List.mem_erase_of_ne fun e => h ⟨b, hb, e⟩).2 (List.mem_range.mpr (Nat.lt_succ_of_le (le b)))
      rw [List.length_map, List.length_range, List.length_erase_of_mem (List.mem_range.mpr (Nat.lt_succ_of_le hj)), List.length_range] at q
      omega
  have per : ∀ k, lcgN m (m + 1 + k) = lcgN m k := fun k => by
    induction k with
    | zero => exact z
    | succ k ih =>
      show (lcgN m (m + 1 + k) * 5 + 1) % (m + 1) = (lcgN m k * 5 + 1) % (m + 1)
      rw [ih]
  intro i j hi hj
  obtain ⟨a, ha, ea⟩ := surj i hi
  obtain ⟨b, hb, eb⟩ := surj j hj
  by_cases c : a ≤ b
  · refine ⟨b - a, by omega, ?_⟩
    rw [← ea, lcgN_add, show a + (b - a) = b by omega, eb]
  · refine ⟨b + (m + 1) - a, by omega, ?_⟩
    rw [← ea, lcgN_add, show a + (b + (m + 1) - a) = m + 1 + b by omega, per, eb]
theorem cov7 : Cov 7 := cov_of (by decide +kernel) (by decide) fun a b _ _ h => by omega
theorem cov31 : Cov 31 := cov_of (by decide +kernel) (by decide) fun a b _ _ h => by omega
theorem cov127 : Cov 127 := cov_of (by decide +kernel) (by decide) fun a b _ _ h => by omega
theorem cov511 : Cov 511 := cov_of (by decide +kernel) (by decide) fun a b _ _ h => by omega
theorem cov2047 : Cov 2047 := cov_of (by decide +kernel) (by decide) fun a b _ _ h => by omega
/-- the masks that come, with room for so many -/
def Msk (m : Nat) : Prop := m = 7 ∨ m = 31 ∨ m = 127 ∨ m = 511 ∨ m = 2047
theorem Msk.cov {m : Nat} (h : Msk m) : Cov m := by
  rcases h with rfl | rfl | rfl | rfl | rfl
  · exact cov7
  · exact cov31
  · exact cov127
  · exact cov511
  · exact cov2047
theorem Msk.le {m : Nat} (h : Msk m) : m ≤ 2047 := by
  rcases h with rfl | rfl | rfl | rfl | rfl <;> decide
theorem meets {m : Nat} (hm : Msk m) (h : Int) {j : Nat} (hj : j ≤ m) : ∃ n, n ≤ m + 12 ∧ runI m (SetTable.bits h) n = j := by
  obtain ⟨k, hk, e⟩ := hm.cov _ j (runI_le m (SetTable.bits h) 12) hj
  exact ⟨12 + k, by omega, (runI_tail (bits_lt h) k).trans e⟩
theorem way_in {m : Nat} {h : Int} {k : Nat} : way m h k ≤ m := by
  have hi : SetTable.bits h % (m + 1) ≤ m := Nat.le_of_lt_succ (Nat.mod_lt _ (Nat.succ_pos _))
  have r := runEnd_bd hi
  have q := nth_in (m := m) k (runAt m (SetTable.bits h % (m + 1)) (SetTable.bits h)) (by
    show SetTable.bits h % (m + 1) + (SetTable.runEnd m (SetTable.bits h % (m + 1)) - SetTable.bits h % (m + 1)) ≤ m
    omega)
  exact Nat.le_trans (Nat.le_add_right _ _) q
/-- each stored hash is found from its beginning, over slots that are taken -/
structure Tb (t : SetTable) (hs : List Int) : Prop where
  ris : Ris t.place.toList
  dm : t.dummies = #[]
  sz : t.place.size = hs.length
  msk : Msk t.mask
  bd : ∀ x ∈ t.place.toList, x ≤ t.mask
  reach : ∀ (i : Nat) (h : Int) (j : Nat), hs[i]? = some h → t.place.toList[i]? = some j → ∃ k, way t.mask h k = j ∧ ∀ k', k' < k → way t.mask h k' ∈ t.place.toList
/-- one more, at the first free slot of its way -/
theorem Tb.more {t : SetTable} {hs : List Int} (T : Tb t hs) {h : Int} {K p : Nat} (hp : SetTable.below t.place (way t.mask h K) = p) (hK : way t.mask h K ∉ t.place.toList) (hb : ∀ k, k < K → way t.mask h k ∈ t.place.toList) :
    p ≤ hs.length ∧ Tb (t.put (way t.mask h K)).1 (hs.take p ++ h :: hs.drop p) ∧ (t.put (way t.mask h K)).1.fill = hs.length + 1 := by
  have hjm := way_in (m := t.mask) (h := h) (k := K)
  generalize hj : way t.mask h K = j at *
  obtain ⟨c1, _, _⟩ := below_cut T.ris j
  rw [hp] at c1
  have hpl : p ≤ t.place.toList.length := by rw [Array.length_toList]; exact c1
  have hph : p ≤ hs.length := by rw [← T.sz]; exact c1
  have hpp : (t.put j).1.place.toList = t.place.toList.take p ++ j :: t.place.toList.drop p := by rw [put_place, hp]
  have hsz : (t.put j).1.place.size = hs.length + 1 := by
    rw [← Array.length_toList, hpp, len_ins _ hpl, Array.length_toList, T.sz]
  have up : ∀ {x : Nat}, x ∈ t.place.toList → x ∈ (t.put j).1.place.toList := fun hx => by rw [hpp]; exact mem_ins.2 (.inr hx)
  have fresh : t.place[SetTable.below t.place j]? ≠ some j := fun e => hK (List.mem_of_getElem? (by rw [Array.getElem?_toList]; exact e))
  refine ⟨hph, ⟨ris_insert T.ris fresh, put_dm T.dm j, by rw [hsz, len_ins _ hph], T.msk, fun x hx => ?_, fun i h' j' h1 h2 => ?_⟩, ?_⟩
  · rw [hpp] at hx
    rcases mem_ins.1 hx with rfl | z
    · exact hjm
    · exact T.bd x z
  · rw [tins_get hs hph] at h1
    rw [hpp, tins_get _ hpl] at h2
    have old : ∀ i0, hs[i0]? = some h' → t.place.toList[i0]? = some j' → ∃ k, way t.mask h' k = j' ∧ ∀ k', k' < k → way t.mask h' k' ∈ (t.put j).1.place.toList := fun i0 a b => by
      obtain ⟨k, e, z⟩ := T.reach i0 h' j' a b
      exact ⟨k, e, fun k' hk' => up (z k' hk')⟩
    by_cases c : i < p
    · rw [if_pos c] at h1 h2
      exact old i h1 h2
    · rw [if_neg c] at h1 h2
      by_cases d : i = p
      · rw [if_pos d] at h1 h2
        cases h1
        cases h2
        exact ⟨K, hj, fun k' hk' => up (hb k' hk')⟩
      · rw [if_neg d] at h1 h2
        exact old (i - 1) h1 h2
  · show (t.put j).1.place.size + (t.put j).1.dummies.size = hs.length + 1
    rw [hsz, put_dm T.dm j]; exact Nat.add_zero _
theorem free_at {m : Nat} (hm : Msk m) (owner : Array (Option Nat)) (h : Int) {j : Nat} (hj : j ≤ m) (hf : oAt owner j = none) :
    ∃ K, SetTable.layClean.free m owner (SetTable.turns m) (SetTable.bits h % (m + 1)) (SetTable.bits h) = some (way m h K) ∧ oAt owner (way m h K) = none ∧ ∀ k, k < K → oAt owner (way m h k) ≠ none := by
  obtain ⟨n, hn, e⟩ := meets hm h hj
  have hw : way m h (off m (SetTable.bits h % (m + 1)) (SetTable.bits h) n) = j := by
    show (nth m (runAt m _ _) _).j = j
    rw [nth_off, itL_run]
    exact e
  obtain ⟨K, k1, k2, k3⟩ := st_least (p := fun k => oAt owner (way m h k) = none) _ (show oAt owner (way m h (off m (SetTable.bits h % (m + 1)) (SetTable.bits h) n)) = none by rw [hw]; exact hf)
  refine ⟨K, free_spec m owner (SetTable.turns m) n _ _ K (by unfold SetTable.turns; omega) k1 (fun k hk => ?_) ?_, k2, k3⟩
  · rw [Option.isNone_eq_false_iff, Option.isSome_iff_ne_none]; exact k3 k hk
  · rw [Option.isNone_iff_eq_none]; exact k2
theorem Own.next {m : Nat} (hm : Msk m) {done : List Int} {owner : Array (Option Nat)} (W : Own m done owner) (hl : done.length ≤ m) (h : Int) :
    ∃ j, SetTable.layClean.free m owner (SetTable.turns m) (SetTable.bits h % (m + 1)) (SetTable.bits h) = some j ∧ Own m (done ++ [h]) (owner.setIfInBounds j (some done.length)) := by
  obtain ⟨ps, hps, hin⟩ := W.ps
  obtain ⟨j0, h0, hn0⟩ := st_missing ps (m + 1) (by omega)
  have hj0 : oAt owner j0 = none := Classical.byContradiction fun z => hn0 (hin j0 (Nat.le_of_lt_succ h0) z)
  obtain ⟨K, e1, e2, e3⟩ := free_at hm owner h (Nat.le_of_lt_succ h0) hj0
  have hjm := way_in (m := m) (h := h) (k := K)
  have hself := oAt_set_self (some done.length) (show way m h K < owner.size by rw [W.sz]; omega)
  have mono : ∀ {i : Nat}, oAt owner i ≠ none → oAt (owner.setIfInBounds (way m h K) (some done.length)) i ≠ none := fun {i} hi => by
    by_cases c : i = way m h K
    · rw [c, hself]; simp
    · rw [oAt_set_ne _ c]; exact hi
  refine ⟨way m h K, e1, by rw [Array.size_setIfInBounds]; exact W.sz, fun j k hj e => ?_, fun k hk => ?_, way m h K :: ps, by simp [hps], fun j hj e => ?_⟩
  · by_cases c : j = way m h K
    · rw [c, hself] at e
      cases e
      exact ⟨h, K, by simp, c.symm, fun k' hk' => mono (e3 k' hk')⟩
    · rw [oAt_set_ne _ c] at e
      obtain ⟨h', K', a1, a2, a3⟩ := W.at_ j k hj e
      exact ⟨h', K', by rw [List.getElem?_append_left (List.getElem?_eq_some_iff.mp a1).1]; exact a1, a2, fun k' hk' => mono (a3 k' hk')⟩
  · rw [List.length_append, List.length_singleton] at hk
    by_cases c : k < done.length
    · obtain ⟨j, hj, e⟩ := W.all k c
      exact ⟨j, hj, by rw [oAt_set_ne _ fun z => by rw [z, e2] at e; cases e]; exact e⟩
    · exact ⟨way m h K, hjm, by rw [hself, show k = done.length by omega]⟩
  · by_cases c : j = way m h K
    · rw [c]; exact List.mem_cons_self
    · rw [oAt_set_ne _ c] at e
      exact List.mem_cons_of_mem _ (hin j hj e)
end SN
set_option Elab.async false
set_option linter.all false
set_option maxRecDepth 100000
set_option maxHeartbeats 4000000
namespace SN
open PySem PySem.Spec PyProof.Rows L2
/-- the tuple at a is the key k -/
def IsN (h : Heap) (k : NestedKey) (a : Addr) : Prop := NestedIs h k (.ref a) ∧ k.depth ≤ 8
end SN
set_option Elab.async false
set_option linter.all false
set_option maxRecDepth 100000
set_option maxHeartbeats 4000000
namespace SN
open PySem PySem.Spec PyProof.Rows L2
abbrev Lk := List (NestedKey × Addr)
def rowN (w : World) (L : Lk) : List (Int × Value) := L.map fun p => (p.1.hash w, Value.ref p.2)
structure SetN (w : World) (h : Heap) (a : Addr) (L : Lk) (es : Array (Int × Value)) (ep : Nat) (t : SetTable) : Prop where
  ob : ∃ o, h.get? a = some o ∧ o.ExactSet ∧ o.data = .set es ep t
  rows : es.toList = rowN w L
  tab : Tb t (L.map fun p => p.1.hash w)
  nd : (L.map (·.1)).Nodup
  keys : ∀ p ∈ L, IsN h p.1 p.2
  room : L.length * 5 < t.mask * 3
section
variable {P : Program} {w : World} {A : Around} {E : Value → Shared → Prop} {s : Shared} {a : Addr} {L : Lk} {es : Array (Int × Value)} {ep : Nat} {t : SetTable}
theorem SetN.size (R : SetN w s.heap a L es ep t) : es.size = L.length := by
  rw [← Array.length_toList, R.rows]; exact List.length_map ..
theorem SetN.entry (R : SetN w s.heap a L es ep t) {i : Nat} {p : NestedKey × Addr} (h : L[i]? = some p) : es[i]? = some (p.1.hash w, Value.ref p.2) := by
  rw [← Array.getElem?_toList, R.rows]
  unfold rowN
  rw [List.getElem?_map, h]; rfl
end
end SN
set_option Elab.async false
set_option linter.all false
set_option maxRecDepth 100000
set_option maxHeartbeats 4000000
set_option Elab.async false
set_option linter.all false
set_option maxRecDepth 100000
set_option maxHeartbeats 4000000
namespace SN
open PySem PySem.Spec PyProof.Rows L2
/-- all of a set but what its keys are -/
def Set0 (w : World) (h : Heap) (a : Addr) (L : Lk) : Prop := ∃ (o : Obj) (es : Array (Int × Value)) (ep : Nat) (t : SetTable), h.get? a = some o ∧ o.ExactSet ∧ o.data = .set es ep t ∧ es.toList = rowN w L ∧ Tb t (L.map fun p => p.1.hash w) ∧ (L.map (·.1)).Nodup ∧ L.length * 5 < t.mask * 3
theorem Set0.full {w : World} {h : Heap} {a : Addr} {L : Lk} (x : Set0 w h a L) (k : ∀ p ∈ L, IsN h p.1 p.2) : ∃ es ep t, SetN w h a L es ep t := by
  obtain ⟨o, es, ep, t, h1, h2, h3, h4, h5, h6, h7⟩ := x
  exact ⟨es, ep, t, ⟨o, h1, h2, h3⟩, h4, h5, h6, k, h7⟩
theorem SetN.bare {w : World} {h : Heap} {a : Addr} {L : Lk} {es : Array (Int × Value)} {ep : Nat} {t : SetTable} (R : SetN w h a L es ep t) : Set0 w h a L := by
  obtain ⟨⟨o, h1, h2, h3⟩, h4, h5, h6, _, h7⟩ := R
  exact ⟨o, es, ep, t, h1, h2, h3, h4, h5, h6, h7⟩
def SetO0 (w : World) (a : Addr) (L : Lk) : HO := .ext fun h => Set0 w h a L
abbrev Ld := List (NestedKey × Addr × V)
def entN (w : World) (L : Ld) (us : List Value) : List DictEntry := L.zipWith (fun q u => ⟨q.1.hash w, .ref q.2.1, u⟩) us
/-- all of a dict but what its keys are -/
def Dic0 (w : World) (h : Heap) (a : Addr) (L : Ld) : Prop := ∃ (o : Obj) (es : Array DictEntry) (ep : Nat) (us : List Value), h.get? a = some o ∧ o.ExactDict ∧ o.data = .dict es ep ∧ Vals (L.map (·.2.2)) us ∧ es.toList = entN w L us ∧ (L.map (·.1)).Nodup ∧ (a == sysModules) = false
def DicO0 (w : World) (a : Addr) (L : Ld) : HO := .ext fun h => Dic0 w h a L
section
variable {P : Program} {w : World} {A : Around} {E : Value → Shared → Prop} {s : Shared} {a : Addr} {L : Lk} {es : Array (Int × Value)} {ep : Nat} {t : SetTable} {x : Addr} {k : NestedKey}
theorem SetN.ty (R : SetN w s.heap a L es ep t) : s.TypeIs (.ref a) "set" := let ⟨o, ho, hc, _⟩ := R.ob; ⟨o, ho, hc.1⟩
end
end SN
set_option Elab.async false
set_option linter.all false
set_option maxRecDepth 100000
set_option maxHeartbeats 4000000
namespace EV
open PySem PySem.Spec PyProof.Rows L2
/-- a lambda: its text, the cells that it captured -/
structure LamD where
  qual : Str
  params : Arguments
  body : Expr
  scope : Scope
  cells : List (Str × Addr)
/-- data as a tree -/
inductive D where
  | non | bl (b : Bool) | int (i : Int) | str (x : Str) | opq (v : V)
  | lst (xs : List D) | tup (xs : List D) | dic (kvs : List (Key × D)) | ins (C : Addr) (fs : List (Str × D)) | exc (C : Addr) (fs : List (Str × D)) | lam (l : LamD) | nk (w : World) (b : Bool) (kvs : List (NestedKey × D))
/-- an exception object of the class at C, its dict at dx: the very object -/
def ExO (C dx : Addr) (u : HO) : Prop := ∃ (oe : Obj) (vs : Array Value), u = .frz oe (.own 0) ∧ Zc (.ref C) (some dx) oe ∧ oe.data = .fields vs
/-- the def's data of a lambda, its code at c -/
def LamFd (G : Hp) (l : LamD) (c : Addr) (fd : FuncData) : Prop := ∃ (dV doc pm ctv : Value) (binds : List (Str × Value)), fd = PySem.W.kdv_fn "<lambda>" l.qual l.params (.expr l.body) l.scope l.cells dV doc pm (.ref c) ctv ∧
  (∀ y ∈ binds, l.scope.names.lookup y.1 = some .local) ∧ ((∀ s, BindsTo s fd ⟨[], []⟩ binds) ∨ ∃ t o its n, G t = some (.frz o (.own 0)) ∧ o.data = .seq its n ∧ ∀ s : Shared, s.heap.get? t = some o → BindsTo s fd ⟨[], []⟩ binds)
mutual
/-- the value v stands for the datum d in the visible heap G -/
inductive Rp (K : PySem.W.Frag) (G : Hp) : V → D → Prop
  | non : Rp K G .non .non
  | bl (b : Bool) : Rp K G (.bl b) (.bl b)
  | int (i : Int) : Rp K G (.int i) (.int i)
  | str (x : Str) : Rp K G (.str x) (.str x)
  | opq (v : V) : Rp K G v (.opq v)
  | lst {a : Addr} {vs : List V} {ds : List D} : G a = some (.lst vs) → RpL K G vs ds → Rp K G (.ref a) (.lst ds)
  | tup {a : Addr} {vs : List V} {ds : List D} : SqT K G a vs → RpL K G vs ds → Rp K G (.ref a) (.tup ds)
  | dic {a : Addr} {od : Obj} {kvs : List (Key × V)} {kds : List (Key × D)} : G a = some (.frz od (.dK kvs)) → RpK K G kvs kds → Rp K G (.ref a) (.dic kds)
  | ins {a C dx : Addr} {fs : List (Str × V)} {ds : List (Str × D)} : G a = some (.ins C dx fs) → RpF K G fs ds → Rp K G (.ref a) (.ins C ds)
  | exc {a C dx : Addr} {u : HO} {fs : List (Str × V)} {ds : List (Str × D)} : G a = some u → ExO C dx u → G dx = some (.xd fs) → RpF K G fs ds → Rp K G (.ref a) (.exc C ds)
  | lam {f c : Addr} {l : LamD} {fd : FuncData} : G f = some (.frz { cls := .type "function", data := .func fd } (.own 0)) → G c = some (LamX.CodeO c l.qual) → LamFd G l c fd → Rp K G (.ref f) (.lam l)
  | nk {a : Addr} {φ : Heap → Prop} {w : World} {b : Bool} {kvs : List (NestedKey × D)} : G a = some (.ext φ) → Rp K G (.ref a) (.nk w b kvs)
inductive RpL (K : PySem.W.Frag) (G : Hp) : List V → List D → Prop
  | nil : RpL K G [] []
  | cons {v : V} {vs : List V} {d : D} {ds : List D} : Rp K G v d → RpL K G vs ds → RpL K G (v :: vs) (d :: ds)
inductive RpK (K : PySem.W.Frag) (G : Hp) : List (Key × V) → List (Key × D) → Prop
  | nil : RpK K G [] []
  | cons {k : Key} {v : V} {vs : List (Key × V)} {d : D} {ds : List (Key × D)} : Rp K G v d → RpK K G vs ds → RpK K G ((k, v) :: vs) ((k, d) :: ds)
inductive RpF (K : PySem.W.Frag) (G : Hp) : List (Str × V) → List (Str × D) → Prop
  | nil : RpF K G [] []
  | cons {k : Str} {v : V} {vs : List (Str × V)} {d : D} {ds : List (Str × D)} : Rp K G v d → RpF K G vs ds → RpF K G ((k, v) :: vs) ((k, d) :: ds)
end
def Sub (G H : Hp) : Prop := ∀ a o, G a = some o → H a = some o
theorem Sub.refl (G : Hp) : Sub G G := fun _ _ h => h
theorem Sub.trans {G H I : Hp} (a : Sub G H) (b : Sub H I) : Sub G I := fun x o h => b x o (a x o h)
theorem Sub.rd {G H : Hp} (e : Sub G H) {a : Addr} {u : HO} (h : Rd G a u) : Rd H a u := by
  rcases h with h | ⟨o, h⟩
  · exact .inl (e _ _ h)
  · exact .inr ⟨o, e _ _ h⟩
theorem Sub.sqL {K : PySem.W.Frag} {G H : Hp} (e : Sub G H) {a : Addr} {xs : List V} (h : SqL K G a xs) : SqL K H a xs := by
  rcases h with h | h
  · exact .inl (e.rd h)
  · exact .inr h
theorem Sub.lstL {K : PySem.W.Frag} {G H : Hp} (e : Sub G H) {a : Addr} {xs : List V} (h : G a = some (.lst xs)) : SqL K H a xs := .inl (.inl (e _ _ h))
theorem Sub.sqT {K : PySem.W.Frag} {G H : Hp} (e : Sub G H) {a : Addr} {xs : List V} (h : SqT K G a xs) : SqT K H a xs := by
  rcases h with h | h
  · exact .inl (e.rd h)
  · exact .inr h
theorem LamFd.mono {G G' : Hp} (e : Sub G G') {l : LamD} {c : Addr} {fd : FuncData} (h : LamFd G l c fd) : LamFd G' l c fd := by
  obtain ⟨dV, doc, pm, ctv, bs, h1, h2, h3⟩ := h
  refine ⟨dV, doc, pm, ctv, bs, h1, h2, ?_⟩
  rcases h3 with h3 | ⟨t, o, its, n, h4, h6, h5⟩
  · exact .inl h3
  · exact .inr ⟨t, o, its, n, e _ _ h4, h6, h5⟩
section
variable {K : PySem.W.Frag} {G G' : Hp}
mutual
theorem Rp.mono (e : Sub G G') : ∀ {d : D} {v : V}, Rp K G v d → Rp K G' v d
  | .non, _, .non => .non
  | .bl _, _, .bl b => .bl b
  | .int _, _, .int i => .int i
  | .str _, _, .str x => .str x
  | .opq _, _, .opq v => .opq v
  | .lst _, _, .lst h r => .lst (e _ _ h) (RpL.mono e r)
  | .tup _, _, .tup h r => .tup (e.sqT h) (RpL.mono e r)
  | .dic _, _, .dic h r => .dic (e _ _ h) (RpK.mono e r)
  | .ins _ _, _, .ins h r => .ins (e _ _ h) (RpF.mono e r)
  | .exc _ _, _, .exc h x q r => .exc (e _ _ h) x (e _ _ q) (RpF.mono e r)
  | .lam _, _, .lam h q r => .lam (e _ _ h) (e _ _ q) (r.mono e)
  | .nk _ _ _, _, .nk h => .nk (e _ _ h)
theorem RpL.mono (e : Sub G G') : ∀ {ds : List D} {vs : List V}, RpL K G vs ds → RpL K G' vs ds
  | [], _, .nil => .nil
  | _ :: _, _, .cons h r => .cons (Rp.mono e h) (RpL.mono e r)
theorem RpK.mono (e : Sub G G') : ∀ {ds : List (Key × D)} {vs : List (Key × V)}, RpK K G vs ds → RpK K G' vs ds
  | [], _, .nil => .nil
  | _ :: _, _, .cons h r => .cons (Rp.mono e h) (RpK.mono e r)
theorem RpF.mono (e : Sub G G') : ∀ {ds : List (Str × D)} {vs : List (Str × V)}, RpF K G vs ds → RpF K G' vs ds
  | [], _, .nil => .nil
  | _ :: _, _, .cons h r => .cons (Rp.mono e h) (RpF.mono e r)
end
theorem RpL.length : ∀ {vs : List V} {ds : List D}, RpL K G vs ds → vs.length = ds.length
  | _, _, .nil => rfl
  | _, _, .cons _ r => congrArg (· + 1) (RpL.length r)
theorem RpL.get : ∀ {vs : List V} {ds : List D} {i : Nat} {d : D}, RpL K G vs ds → ds[i]? = some d → ∃ v, vs[i]? = some v ∧ Rp K G v d
  | _, _, _, _, .nil, e => by simp at e
  | _, _, 0, _, .cons r _, e => by simp at e; subst e; exact ⟨_, rfl, r⟩
  | _, _, i + 1, d, .cons _ t, e => by
    obtain ⟨u, h1, h2⟩ := RpL.get (i := i) (d := d) t (by simpa using e)
    exact ⟨u, by simpa using h1, h2⟩
theorem RpL.append : ∀ {xs ys : List V} {us ws : List D}, RpL K G xs us → RpL K G ys ws → RpL K G (xs ++ ys) (us ++ ws)
  | _, _, _, _, .nil, s => s
  | _, _, _, _, .cons r t, s => .cons r (RpL.append t s)
theorem RpL.take : ∀ {xs : List V} {us : List D} (n : Nat), RpL K G xs us → RpL K G (xs.take n) (us.take n)
  | _, _, 0, _ => .nil
  | _, _, _ + 1, .nil => .nil
  | _, _, n + 1, .cons r t => .cons r (RpL.take n t)
theorem RpL.drop : ∀ {xs : List V} {us : List D} (n : Nat), RpL K G xs us → RpL K G (xs.drop n) (us.drop n)
  | _, _, 0, r => r
  | _, _, _ + 1, .nil => .nil
  | _, _, n + 1, .cons _ t => RpL.drop n t
theorem RpL.set {x : V} {u : D} (r : Rp K G x u) : ∀ {xs : List V} {us : List D} (i : Nat), RpL K G xs us → RpL K G (xs.set i x) (us.set i u)
  | _, _, _, .nil => .nil
  | _, _, 0, .cons _ t => .cons r t
  | _, _, i + 1, .cons q t => .cons q (RpL.set r i t)
end
mutual
def kOf : D → Option NestedKey
  | .non => some .none
  | .bl b => some (.num (if b = true then 1 else 0))
  | .int i => some (.num i)
  | .str x => some (.text x)
  | .tup xs => (kOfs xs).map .tup
  | _ => none
def kOfs : List D → Option (List NestedKey)
  | [] => some []
  | d :: ds => match kOf d, kOfs ds with
    | some k, some ks => some (k :: ks)
    | _, _ => none
end
/-- the object at a is the key k -/
def KeyG (K : PySem.W.Frag) (G : Hp) (k : NestedKey) (a : Addr) : Prop := k.depth ≤ 8 ∧ ∃ d, kOf d = some k ∧ Rp K G (.ref a) d
theorem KeyG.mono {K : PySem.W.Frag} {G G' : Hp} {k : NestedKey} {a : Addr} (e : Sub G G') (h : KeyG K G k a) : KeyG K G' k a := ⟨h.1, let ⟨d, x, r⟩ := h.2; ⟨d, x, r.mono e⟩⟩
inductive RpN (K : PySem.W.Frag) (G : Hp) : SN.Ld → List (NestedKey × D) → Prop
  | nil : RpN K G [] []
  | cons {k : NestedKey} {a : Addr} {v : V} {d : D} {L : SN.Ld} {ds : List (NestedKey × D)} : KeyG K G k a → Rp K G v d → RpN K G L ds → RpN K G ((k, a, v) :: L) ((k, d) :: ds)
theorem RpN.mono {K : PySem.W.Frag} {G G' : Hp} (e : Sub G G') : ∀ {L : SN.Ld} {ds : List (NestedKey × D)}, RpN K G L ds → RpN K G' L ds
  | _, _, .nil => .nil
  | _, _, .cons h r t => .cons (h.mono e) (r.mono e) (t.mono e)
/-- bx: the box, its list, the tables; amb: what is visible all along -/
structure Bo where
  bx : Option (Addr × Addr × List (Addr × Str))
  amb : Hp
def bo0 : Bo := ⟨none, fun _ => none⟩
def boB (b l : Addr) (T : List (Addr × Str)) : Bo := ⟨some (b, l, T), fun _ => none⟩
/-- what is hidden and changes on its own -/
def Hid (B : Bo) (a : Addr) : Prop := ∃ b l T, B.bx = some (b, l, T) ∧ (a = b ∨ ∃ p ∈ T, a = p.1)
/-- the tables: their code objects are visible -/
def TabG (T : List (Addr × Str)) (G H : Hp) : Prop := ∀ p ∈ T, ∃ ps : Array Value, H p.1 = some (.tbl ps) ∧ TriplesOk ps.toList ∧ ∀ (pos : Pos) (cv : Value), codeAmong pos ps.toList = some cv → ∃ c, cv = .ref c ∧ G c = some (LamX.CodeO c p.2)
structure Bx (K : PySem.W.Frag) (G H : Hp) (b l : Addr) (T : List (Addr × Str)) : Prop where
  hid : G b = none
  has : ∃ (ns : List Int) (i r m c : Int), H b = some (.lst [.ref l, .int i, .int r, .int m, .int c]) ∧ SqL K G l (ns.map V.int) ∧ 0 ≤ i ∧ 0 ≤ r ∧ 0 ≤ m ∧ m < 2147483587 ∧ 0 ≤ c
  tab : TabG T G H
  tv : ∀ p ∈ T, G p.1 = none
/-- objects that may change: their contents, by address -/
abbrev Ow := Addr → Option D
def oset (O : Ow) (p : Addr) (d : D) : Ow := fun q => if q = p then some d else O q
def odel (O : Ow) (p : Addr) : Ow := fun q => if q = p then none else O q
theorem oset_same {O : Ow} {p : Addr} {d : D} : oset O p d p = some d := by unfold oset; rw [if_pos rfl]
theorem oset_ne {O : Ow} {p q : Addr} {d : D} (h : q ≠ p) : oset O p d q = O q := by unfold oset; rw [if_neg h]
theorem odel_same {O : Ow} {p : Addr} : odel O p p = none := by unfold odel; rw [if_pos rfl]
theorem odel_ne {O : Ow} {p q : Addr} (h : q ≠ p) : odel O p q = O q := by unfold odel; rw [if_neg h]
theorem oset_oset {O : Ow} {p : Addr} {d e : D} : oset (oset O p d) p e = oset O p e := by funext q; unfold oset; split <;> rfl
theorem odel_oset {O : Ow} {p : Addr} {d : D} (h : O p = none) : odel (oset O p d) p = O := by
  funext q; unfold oset odel
  by_cases e : q = p
  · rw [if_pos e, e, h]
  · rw [if_neg e]; exact if_neg e
/-- an object that may change: its items are visible, itself is not -/
def RpO (K : PySem.W.Frag) (G H : Hp) (p : Addr) : D → Prop
  | .lst ds => ∃ vs, H p = some (.lst vs) ∧ RpL K G vs ds
  | .dic ds => ∃ vs, H p = some (.dK vs) ∧ RpK K G vs ds
  | .ins C ds => ∃ dx fs, H p = some (.ins C dx fs) ∧ RpF K G fs ds
  | .nk w true kvs => ∃ L : SN.Lk, H p = some (SN.SetO0 w p L) ∧ (L.map (·.1)).Perm (kvs.map (·.1)) ∧ ∀ q ∈ L, KeyG K G q.1 q.2
  | .nk w false kvs => ∃ L : SN.Ld, H p = some (SN.DicO0 w p L) ∧ RpN K G L kvs
  | _ => False
theorem RpO.some_of {K : PySem.W.Frag} {G H : Hp} {p : Addr} : ∀ {d : D}, RpO K G H p d → ∃ o, H p = some o
  | .lst _, ⟨_, h, _⟩ => ⟨_, h⟩
  | .dic _, ⟨_, h, _⟩ => ⟨_, h⟩
  | .ins _ _, ⟨_, _, h, _⟩ => ⟨_, h⟩
  | .nk _ true _, ⟨_, h, _⟩ => ⟨_, h⟩
  | .nk _ false _, ⟨_, h, _⟩ => ⟨_, h⟩
theorem RpO.mono {K : PySem.W.Frag} {G H G' H' : Hp} {p : Addr} (s : Sub G G') (k : ∀ o, H p = some o → H' p = some o) : ∀ {d : D}, RpO K G H p d → RpO K G' H' p d
  | .lst _, ⟨vs, h, r⟩ => ⟨vs, k _ h, r.mono s⟩
  | .dic _, ⟨vs, h, r⟩ => ⟨vs, k _ h, r.mono s⟩
  | .ins _ _, ⟨dx, fs, h, r⟩ => ⟨dx, fs, k _ h, r.mono s⟩
  | .nk _ true _, ⟨L, h, pm, r⟩ => ⟨L, k _ h, pm, fun q hq => (r q hq).mono s⟩
  | .nk _ false _, ⟨L, h, r⟩ => ⟨L, k _ h, r.mono s⟩
/-- what p holds, as a visible thing -/
theorem RpO.rp {K : PySem.W.Frag} {G H : Hp} {p : Addr} {o : HO} (e : H p = some o) (n : G p = none) : ∀ {d : D}, (∀ ks, d ≠ .dic ks) → RpO K G H p d → Rp K (upd G p o) (.ref p) d := fun {d} nd r => by
  have s : Sub G (upd G p o) := fun a u h => by rw [upd_ne (fun z => by rw [z, n] at h; cases h)]; exact h
  cases d <;> first
    | exact r.elim
    | exact absurd rfl (nd _)
    | (rename_i w b kvs; cases b <;> (obtain ⟨L, h, _⟩ := r; rw [e] at h; cases h; exact .nk upd_same))
    | (obtain ⟨vs, h, r⟩ := r; rw [e] at h; cases h; exact .lst upd_same (r.mono s))
    | (obtain ⟨dx, fs, h, r⟩ := r; rw [e] at h; cases h; exact .ins upd_same (r.mono s))
structure Good (K : PySem.W.Frag) (B : Bo) (O : Ow) (G H : Hp) : Prop where
  sub : Sub G H
  box : ∀ b l T, B.bx = some (b, l, T) → Bx K G H b l T
  amb : Sub B.amb G
  own : ∀ p d, O p = some d → G p = none ∧ ¬ Hid B p ∧ RpO K G H p d
structure Step (K : PySem.W.Frag) (B : Bo) (O : Ow) (G H : Hp) (O' : Ow) (G' H' : Hp) : Prop where
  grow : Sub G G'
  good : Good K B O' G' H'
  keep : ∀ a o, H a = some o → ¬ Hid B a → O a = none → H' a = some o
  hid : ∀ a o, H a = some o → G a = none → O a = none → G' a = none ∧ O' a = none
  still : ∀ a, H a ≠ none → H' a ≠ none
theorem upd_still {H : Hp} {p : Addr} {o : HO} (a : Addr) (h : H a ≠ none) : upd H p o a ≠ none := by
  unfold upd
  split
  · exact Option.some_ne_none _
  · exact h
section
variable {K : PySem.W.Frag} {B : Bo} {O O' O'' : Ow} {G H G' H' G'' H'' : Hp}
theorem Good.vis {a : Addr} {o : HO} (g : Good K B O G H) (h : G a = some o) : O a = none := by
  cases e : O a with
  | none => rfl
  | some d => have := (g.own a d e).1; rw [h] at this; cases this
theorem Good.fresh {a : Addr} (g : Good K B O G H) (h : H a = none) : O a = none := by
  cases e : O a with
  | none => rfl
  | some d => obtain ⟨o, z⟩ := (g.own a d e).2.2.some_of; rw [h] at z; cases z
theorem Good.freshG {a : Addr} (g : Good K B O G H) (h : H a = none) : G a = none := by
  cases e : G a with
  | none => rfl
  | some d => rw [g.sub _ _ e] at h; cases h
theorem Good.hidH {a : Addr} (g : Good K B O G H) (h : Hid B a) : ∃ o, H a = some o ∧ (∀ φ, o ≠ .ext φ) := by
  obtain ⟨b, l, T, e, h⟩ := h
  have bx := g.box b l T e
  rcases h with rfl | ⟨p, hp, rfl⟩
  · obtain ⟨ns, i, r, m, c, h2, _⟩ := bx.has
    exact ⟨_, h2, fun φ z => by cases z⟩
  · obtain ⟨ps, h2, _⟩ := bx.tab p hp
    exact ⟨_, h2, fun φ z => by cases z⟩
theorem Good.hidG {a : Addr} (g : Good K B O G H) (h : Hid B a) : G a = none := by
  obtain ⟨b, l, T, e, h⟩ := h
  have bx := g.box b l T e
  rcases h with rfl | ⟨p, hp, rfl⟩
  · exact bx.hid
  · exact bx.tv p hp
theorem Good.hidO {a : Addr} (g : Good K B O G H) (h : Hid B a) : O a = none := by
  cases q : O a with
  | none => rfl
  | some d => exact absurd h (g.own a d q).2.1
theorem Good.nhid {a : Addr} (g : Good K B O G H) (h : H a = none) : ¬ Hid B a := fun z => by
  obtain ⟨o, e, _⟩ := g.hidH z
  rw [h] at e; cases e
theorem Step.refl (g : Good K B O G H) : Step K B O G H O G H := ⟨Sub.refl G, g, fun _ _ h _ _ => h, fun _ _ _ h n => ⟨h, n⟩, fun _ h => h⟩
theorem Step.visO {a : Addr} {o : HO} (s : Step K B O G H O' G' H') (h : H a = some o) (n : O a = none) : O' a = none := by
  cases e : G a with
  | none => exact (s.hid a o h e n).2
  | some u => exact s.good.vis (s.grow _ _ e)
theorem Step.trans (s : Step K B O G H O' G' H') (t : Step K B O' G' H' O'' G'' H'') : Step K B O G H O'' G'' H'' := by
  refine ⟨s.grow.trans t.grow, t.good, fun a o h n z => t.keep a o (s.keep a o h n z) n (s.visO h z), fun a o h g z => ?_, fun a h => t.still a (s.still a h)⟩
  by_cases hb : Hid B a
  · exact ⟨t.good.hidG hb, t.good.hidO hb⟩
  · have q := s.hid a o h g z
    exact t.hid a o (s.keep a o h hb z) q.1 q.2
/-- the box stays: what is hidden is as it was, and so is every code object -/
theorem Bx.step {b l : Addr} {T : List (Addr × Str)} (h : Bx K G H b l T) (s : Sub G G') (n : ∀ a, (a = b ∨ ∃ p ∈ T, a = p.1) → G' a = none) (k : ∀ a o, (a = b ∨ ∃ p ∈ T, a = p.1) → H a = some o → H' a = some o) : Bx K G' H' b l T := by
  obtain ⟨h1, ⟨ns, i, r, m, c, h2, h3, h4⟩, h5, h6⟩ := h
  refine ⟨n b (.inl rfl), ⟨ns, i, r, m, c, k _ _ (.inl rfl) h2, s.sqL h3, h4⟩, fun p hp => ?_, fun p hp => n p.1 (.inr ⟨p, hp, rfl⟩)⟩
  obtain ⟨ps, a1, a2, a3⟩ := h5 p hp
  refine ⟨ps, k _ _ (.inr ⟨p, hp, rfl⟩) a1, a2, fun pos cv hc => ?_⟩
  obtain ⟨c, e1, e2⟩ := a3 pos cv hc
  exact ⟨c, e1, s _ _ e2⟩
/-- a new visible object -/
theorem Step.new (g : Good K B O G H) {p : Addr} {o : HO} (n : H p = none) : Step K B O G H O (upd G p o) (upd H p o) := by
  have n0 : ∀ q u, H q = some u → q ≠ p := fun q u h e => by rw [e, n] at h; cases h
  have n1 : ∀ q u, G q = some u → q ≠ p := fun q u h => n0 q u (g.sub q u h)
  have sG : Sub G (upd G p o) := fun a u h => by rw [upd_ne (n1 a u h)]; exact h
  have sH : Sub H (upd H p o) := fun a u h => by rw [upd_ne (n0 a u h)]; exact h
  refine ⟨sG, ⟨fun a u h => ?_, fun b l T e => ?_, g.amb.trans sG, fun q d e => ?_⟩, fun a u h _ _ => sH _ _ h, fun a u h z nO => ⟨?_, nO⟩, upd_still⟩
  · by_cases e : a = p
    · subst e; rw [upd_same] at h ⊢; exact h
    · rw [upd_ne e] at h ⊢; exact g.sub a u h
  · refine (g.box b l T e).step sG (fun a ha => ?_) fun a o _ h => sH _ _ h
    have ha : Hid B a := ⟨b, l, T, e, ha⟩
    obtain ⟨u, hu, _⟩ := g.hidH ha
    rw [upd_ne (n0 _ _ hu)]; exact g.hidG ha
  · obtain ⟨a, b, c⟩ := g.own q d e
    obtain ⟨u, hu⟩ := c.some_of
    exact ⟨by rw [upd_ne (n0 _ _ hu)]; exact a, b, c.mono sG fun u h => sH _ _ h⟩
  · rw [upd_ne (n0 a u h)]; exact z
/-- a new hidden object -/
theorem Step.newH (g : Good K B O G H) {p : Addr} {o : HO} (n : H p = none) : Step K B O G H O G (upd H p o) := by
  have n0 : ∀ q u, H q = some u → q ≠ p := fun q u h e => by rw [e, n] at h; cases h
  have sH : Sub H (upd H p o) := fun a u h => by rw [upd_ne (n0 a u h)]; exact h
  refine ⟨Sub.refl _, ⟨g.sub.trans sH, fun b l T e => ?_, g.amb, fun q d e => ?_⟩, fun a u h _ _ => sH _ _ h, fun a u h z nO => ⟨z, nO⟩, upd_still⟩
  · exact (g.box b l T e).step (Sub.refl _) (fun a ha => g.hidG ⟨b, l, T, e, ha⟩) fun a o _ h => sH _ _ h
  · obtain ⟨a, b, c⟩ := g.own q d e
    exact ⟨a, b, c.mono (Sub.refl _) fun u h => sH _ _ h⟩
/-- what p holds changes, p being one's own or hidden and new -/
theorem Step.put (g : Good K B O G H) {p : Addr} {o : HO} {d : D} (nG : G p = none) (nb : ¬ Hid B p) (r : RpO K G (upd H p o) p d) (z : O p ≠ none ∨ H p = none) : Step K B O G H (oset O p d) G (upd H p o) := by
  have k : ∀ q, q ≠ p → ∀ u, H q = some u → upd H p o q = some u := fun q n u h => by rw [upd_ne n]; exact h
  have np : ∀ a u, H a = some u → O a = none → a ≠ p := fun a u h n e => by
    subst e
    rcases z with z | z
    · exact z n
    · rw [z] at h; cases h
  refine ⟨Sub.refl _, ⟨fun a u h => k a (fun e => by rw [e, nG] at h; cases h) u (g.sub _ _ h), fun b l T e => ?_, g.amb, fun q d' e => ?_⟩, fun a u h _ n => k a (np a u h n) u h, fun a u h zz n => ⟨zz, by rw [oset_ne (np a u h n)]; exact n⟩, upd_still⟩
  · refine (g.box b l T e).step (Sub.refl _) (fun a ha => g.hidG ⟨b, l, T, e, ha⟩) fun a o ha h => k a (fun z => ?_) o h
    subst z; exact nb ⟨b, l, T, e, ha⟩
  · by_cases hq : q = p
    · subst hq; rw [oset_same] at e; cases e; exact ⟨nG, nb, r⟩
    · rw [oset_ne hq] at e
      obtain ⟨a, b, c⟩ := g.own q d' e
      exact ⟨a, b, c.mono (Sub.refl _) (k q hq)⟩
/-- what is one's own is shown, and changes no more -/
theorem Step.freeze (g : Good K B O G H) {p : Addr} {d : D} (nd : ∀ ks, d ≠ .dic ks) (e : O p = some d) : ∃ G', Step K B O G H (odel O p) G' H ∧ Rp K G' (.ref p) d := by
  obtain ⟨nG, nb, r⟩ := g.own p d e
  obtain ⟨o, ho⟩ := r.some_of
  have sG : Sub G (upd G p o) := fun a u h => by rw [upd_ne (fun z => by rw [z, nG] at h; cases h)]; exact h
  refine ⟨upd G p o, ⟨sG, ⟨fun a u h => ?_, fun b l T eb => ?_, g.amb.trans sG, fun q d' eq => ?_⟩, fun a u h _ _ => h, fun a u h z n => ?_, fun _ h => h⟩, r.rp ho nG nd⟩
  · by_cases z : a = p
    · subst z; rw [upd_same] at h; cases h; exact ho
    · rw [upd_ne z] at h; exact g.sub _ _ h
  · refine (g.box b l T eb).step sG (fun a ha => ?_) fun a o _ h => h
    have ha : Hid B a := ⟨b, l, T, eb, ha⟩
    rw [upd_ne (fun z => nb (by rw [← z]; exact ha))]; exact g.hidG ha
  · by_cases z : q = p
    · subst z; rw [odel_same] at eq; cases eq
    · rw [odel_ne z] at eq
      obtain ⟨a, b, c⟩ := g.own q d' eq
      exact ⟨by rw [upd_ne z]; exact a, b, c.mono sG fun _ h => h⟩
  · have np : a ≠ p := fun q => by subst q; rw [e] at n; cases n
    exact ⟨by rw [upd_ne np]; exact z, by rw [odel_ne np]; exact n⟩
/-- a dict is shown: from then on its object stays -/
theorem Step.freezeD (g : Good K B O G H) {p : Addr} {kds : List (Key × D)} (e : O p = some (.dic kds)) : ∃ kvs, H p = some (.dK kvs) ∧ ∀ od, ∃ G', Step K B O G H (odel O p) G' (upd H p (.frz od (.dK kvs))) ∧ Rp K G' (.ref p) (.dic kds) := by
  obtain ⟨nG, nb, kvs, ho, r⟩ := g.own p _ e
  refine ⟨kvs, ho, fun od => ?_⟩
  have neG : ∀ a u, G a = some u → a ≠ p := fun a u h z => by rw [z, nG] at h; cases h
  have sG : Sub G (upd G p (.frz od (.dK kvs))) := fun a u h => by rw [upd_ne (neG a u h)]; exact h
  refine ⟨upd G p (.frz od (.dK kvs)), ⟨sG, ⟨fun a u h => ?_, fun b l T eb => ?_, g.amb.trans sG, fun q d' eq => ?_⟩, fun a u h _ n => ?_, fun a u h z n => ?_, upd_still⟩, .dic upd_same (r.mono sG)⟩
  · by_cases z : a = p
    · subst z; rw [upd_same] at h ⊢; exact h
    · rw [upd_ne z] at h ⊢; exact g.sub _ _ h
  · refine (g.box b l T eb).step sG (fun a ha => ?_) fun a o ha h => ?_
    · have ha : Hid B a := ⟨b, l, T, eb, ha⟩
      rw [upd_ne (fun z => nb (by rw [← z]; exact ha))]; exact g.hidG ha
    · have z : a ≠ p := fun z => by
        subst z
        exact nb ⟨b, l, T, eb, ha⟩
      rw [upd_ne z]; exact h
  · have z : q ≠ p := fun z => by subst z; rw [odel_same] at eq; cases eq
    rw [odel_ne z] at eq
    obtain ⟨a, b, c⟩ := g.own q d' eq
    exact ⟨by rw [upd_ne z]; exact a, b, c.mono sG fun u h => by rw [upd_ne z]; exact h⟩
  · have np : a ≠ p := fun q => by subst q; rw [e] at n; cases n
    rw [upd_ne np]; exact h
  · have np : a ≠ p := fun q => by subst q; rw [e] at n; cases n
    exact ⟨by rw [upd_ne np]; exact z, by rw [odel_ne np]; exact n⟩
end
end EV
set_option Elab.async false
set_option linter.all false
set_option maxRecDepth 100000
set_option maxHeartbeats 4000000
namespace EV
open PySem PySem.Spec PyProof.Rows L2
inductive Sl where
  | un | sh (d : D)
abbrev Slots := List Sl
structure RpS (K : PySem.W.Frag) (G : Hp) (σ : L2.St) (ρ : Slots) : Prop where
  len : σ.length = ρ.length
  sh : ∀ (i : Nat) (d : D), ρ[i]? = some (.sh d) → ∃ v, σ[i]? = some (some v) ∧ Rp K G v d
/-- an exception: its class, its attributes -/
abbrev Xc := Addr × List (Str × D)
abbrev QD := D → Ow → Prop
abbrev QX := Xc → Ow → Prop
abbrev DE := Slots → Ow → QD → QX → Prop
abbrev DT := Slots → Ow → (Bool → Ow → Prop) → QX → Prop
abbrev DA := Slots → Ow → (List D → Ow → Prop) → QX → Prop
def kv (K : PySem.W.Frag) (B : Bo) (O : Ow) (G H : Hp) (Q : VK) : QD := fun d O' => ∀ v G' H', Step K B O G H O' G' H' → Rp K G' v d → Q v H'
def kb (K : PySem.W.Frag) (B : Bo) (O : Ow) (G H : Hp) (Q : Bool → Hp → Prop) : Bool → Ow → Prop := fun b O' => ∀ G' H', Step K B O G H O' G' H' → Q b H'
def ka (K : PySem.W.Frag) (B : Bo) (O : Ow) (G H : Hp) (Q : List V → Hp → Prop) : List D → Ow → Prop := fun ds O' => ∀ vs G' H', Step K B O G H O' G' H' → RpL K G' vs ds → Q vs H'
def kx (K : PySem.W.Frag) (B : Bo) (O : Ow) (G H : Hp) (E : XK) : QX := fun x O' => ∀ d fs G' H', Step K B O G H O' G' H' → G' d = some (.xd fs) → RpF K G' fs x.2 → E (.ref x.1) (some d) H'
section
variable {K : PySem.W.Frag} {B : Bo} {O O' O'' : Ow} {G H G' H' : Hp}
theorem kv.step {Q : VK} {d : D} (s : Step K B O G H O' G' H') (h : kv K B O G H Q d O'') : kv K B O' G' H' Q d O'' := fun v G2 H2 t r => h v G2 H2 (s.trans t) r
theorem kb.step {Q : Bool → Hp → Prop} {d : Bool} (s : Step K B O G H O' G' H') (h : kb K B O G H Q d O'') : kb K B O' G' H' Q d O'' := fun G2 H2 t => h G2 H2 (s.trans t)
theorem ka.step {Q : List V → Hp → Prop} {d : List D} (s : Step K B O G H O' G' H') (h : ka K B O G H Q d O'') : ka K B O' G' H' Q d O'' := fun v G2 H2 t r => h v G2 H2 (s.trans t) r
theorem kx.step {E : XK} {x : Xc} (s : Step K B O G H O' G' H') (h : kx K B O G H E x O'') : kx K B O' G' H' E x O'' := fun d fs G2 H2 t a r => h d fs G2 H2 (s.trans t) a r
theorem RpS.mono {σ : L2.St} {ρ : Slots} (s : Sub G G') (r : RpS K G σ ρ) : RpS K G' σ ρ :=
  ⟨r.len, fun i d h => by obtain ⟨v, e, q⟩ := r.sh i d h; exact ⟨v, e, q.mono s⟩⟩
theorem RpS.step {σ : L2.St} {ρ : Slots} (s : Step K B O G H O' G' H') (r : RpS K G σ ρ) : RpS K G' σ ρ := r.mono s.grow
end
def up (K : PySem.W.Frag) (B : Bo) (W : L2.St → XK) (m : DE) : TE := fun σ H Q => ∃ G O ρ, Good K B O G H ∧ RpS K G σ ρ ∧ m ρ O (kv K B O G H Q) (kx K B O G H (W σ))
def upT (K : PySem.W.Frag) (B : Bo) (W : L2.St → XK) (m : DT) : TT := fun σ H Q => ∃ G O ρ, Good K B O G H ∧ RpS K G σ ρ ∧ m ρ O (kb K B O G H Q) (kx K B O G H (W σ))
def upA (K : PySem.W.Frag) (B : Bo) (W : L2.St → XK) (m : DA) : TA := fun σ H Q => ∃ G O ρ, Good K B O G H ∧ RpS K G σ ρ ∧ m ρ O (ka K B O G H Q) (kx K B O G H (W σ))
def Mo {α : Type} (m : Slots → Ow → (α → Ow → Prop) → QX → Prop) : Prop := ∀ ρ O Q Q' E E', (∀ d O, Q d O → Q' d O) → (∀ x O, E x O → E' x O) → m ρ O Q E → m ρ O Q' E'
/-- where one stands: the box, the wish of exceptions -/
structure Pl where
  B : Bo
  W : L2.St → XK
structure DPE (X : Cx) (L : Pl) (e : Expr) (m : DE) : Prop where
  mo : Mo m
  run : PE X e (up X.K L.B L.W m)
structure DPT (X : Cx) (L : Pl) (e : Expr) (m : DT) : Prop where
  mo : Mo m
  run : PT X e (upT X.K L.B L.W m)
structure DPW (X : Cx) (L : Pl) (e : Expr) (m : DT) : Prop where
  mo : Mo m
  run : PW X e (upT X.K L.B L.W m)
structure DPA (X : Cx) (L : Pl) (es : List Expr) (m : DA) : Prop where
  mo : Mo m
  run : PA X es (upA X.K L.B L.W m)
section
variable {X : Cx} {L : Pl} {e a b c : Expr} {es : List Expr} {m ma mb mc : DE} {mt mu : DT} {mA : DA} {pos p : Pos}
theorem pe_imp {t t' : TE} (h : PE X e t) (i : ∀ σ H Q, t' σ H Q → t σ H Q) : PE X e t' := ⟨fun pins s σ H Q I q => h.run pins s σ H Q I (i _ _ _ q)⟩
theorem pt_imp {t t' : TT} (h : PT X e t) (i : ∀ σ H Q, t' σ H Q → t σ H Q) : PT X e t' := ⟨fun pins s σ H Q I q => h.run pins s σ H Q I (i _ _ _ q)⟩
theorem pw_imp {t t' : TT} (h : PW X e t) (i : ∀ σ H Q, t' σ H Q → t σ H Q) : PW X e t' := ⟨fun wh pins s σ H Q I q => h.run wh pins s σ H Q I (i _ _ _ q)⟩
theorem pa_imp {t t' : TA} (h : PA X es t) (i : ∀ σ H Q, t' σ H Q → t σ H Q) : PA X es t' := ⟨fun pos pins s σ H Q I q => h.run pos pins s σ H Q I (i _ _ _ q)⟩
variable {K : PySem.W.Frag} {B : Bo} {O O1 O2 O3 : Ow} {W : L2.St → XK} {G H : Hp} {σ : L2.St} {ρ : Slots}
theorem up_of {R : VK} {P : QD} (mo : Mo m) (g : Good K B O G H) (r : RpS K G σ ρ) (h : m ρ O P (kx K B O G H (W σ)))
    (k : ∀ d v O' G' H', P d O' → Step K B O G H O' G' H' → Rp K G' v d → R v H') : up K B W m σ H R :=
  ⟨G, O, ρ, g, r, mo ρ _ _ _ _ _ (fun d O' p v G' H' s q => k d v O' G' H' p s q) (fun _ _ x => x) h⟩
theorem upT_of {R : Bool → Hp → Prop} {P : Bool → Ow → Prop} (mo : Mo mt) (g : Good K B O G H) (r : RpS K G σ ρ) (h : mt ρ O P (kx K B O G H (W σ)))
    (k : ∀ b O' G' H', P b O' → Step K B O G H O' G' H' → R b H') : upT K B W mt σ H R :=
  ⟨G, O, ρ, g, r, mo ρ _ _ _ _ _ (fun d O' p G' H' s => k d O' G' H' p s) (fun _ _ x => x) h⟩
theorem upA_of {R : List V → Hp → Prop} {P : List D → Ow → Prop} (mo : Mo mA) (g : Good K B O G H) (r : RpS K G σ ρ) (h : mA ρ O P (kx K B O G H (W σ)))
    (k : ∀ d v O' G' H', P d O' → Step K B O G H O' G' H' → RpL K G' v d → R v H') : upA K B W mA σ H R :=
  ⟨G, O, ρ, g, r, mo ρ _ _ _ _ _ (fun d O' p v G' H' s q => k d v O' G' H' p s q) (fun _ _ x => x) h⟩
/-- the wish of exceptions carried on -/
theorem mo_step {α : Type} {n : Slots → Ow → (α → Ow → Prop) → QX → Prop} {P : α → Ow → Prop} {O' O'' : Ow} {G' H' : Hp} {E : XK} (mo : Mo n) (s : Step K B O G H O' G' H') (h : n ρ O'' P (kx K B O G H E)) : n ρ O'' P (kx K B O' G' H' E) :=
  mo ρ _ _ _ _ _ (fun _ _ x => x) (fun _ _ x => x.step s) h
def dVar (i : Nat) : DE := fun ρ O Q _ => match ρ[i]? with
  | some (.sh d) => Q d O
  | _ => False
theorem mo_var (i : Nat) : Mo (dVar i) := fun ρ O Q Q' E E' h _ x => by
  unfold dVar at x ⊢
  split <;> simp_all
theorem d_var {i : Nat} {x : Str} (hN : X.N[i]? = some x) (hv : Vis X.env.scope x) (hd : (x == ("__debug__" : Str)) = false) (hcd : (x == ("__classdict__" : Str)) = false) : DPE X L (.Name x pos) (dVar i) := by
  refine ⟨mo_var i, pe_imp (pe_var hN hv hd hcd) fun σ H Q ⟨G, O, ρ, g, r, h⟩ => ?_⟩
  unfold dVar at h
  split at h
  · rename_i d e
    obtain ⟨v, ev, q⟩ := r.sh i d e
    exact ⟨v, ev, h v G H (Step.refl g) q⟩
  · exact h.elim
/-- the handle in a slot, from now on shown -/
def dVarF (i : Nat) : DE := fun ρ O Q _ => match ρ[i]? with
  | some (.sh (.opq (.ref p))) => ∃ d, O p = some d ∧ Q d (odel O p)
  | _ => False
theorem mo_varF (i : Nat) : Mo (dVarF i) := fun ρ O Q Q' E E' h _ x => by
  unfold dVarF at x ⊢
  split at x
  · obtain ⟨d, e, q⟩ := x
    exact ⟨d, e, h _ _ q⟩
  · exact x
/-- a dict may be locked where one stands -/
theorem pe_lk {t : TE} (h : PE X e t) : PE X e (fun σ H Q => t σ H fun v H1 => Q v H1 ∨ ∃ p u, v = .ref p ∧ H1 p = some u ∧ Mut (some u) ∧ ∀ od, Q v (upd H1 p (.frz od u))) := by
  refine ⟨fun pins s σ H Q I hw => wpAny_mono (h.run pins s σ H _ I hw) (fun v s1 ⟨x, H1, I1, r, q⟩ => ?_) fun _ _ z => z⟩
  rcases q with q | ⟨p, u, rfl, hp, mu, q⟩
  · exact ⟨x, H1, I1, r, q⟩
  · obtain ⟨od, I2⟩ := I1.lock hp mu
    exact ⟨.ref p, _, I2, r, q od⟩
theorem d_varF {i : Nat} {x : Str} (hN : X.N[i]? = some x) (hv : Vis X.env.scope x) (hd : (x == ("__debug__" : Str)) = false) (hcd : (x == ("__classdict__" : Str)) = false) : DPE X L (.Name x pos) (dVarF i) := by
  refine ⟨mo_varF i, pe_imp (pe_lk (pe_var hN hv hd hcd)) fun σ H Q ⟨G, O, ρ, g, r, h⟩ => ?_⟩
  unfold dVarF at h
  split at h
  · rename_i p e
    obtain ⟨d, ed, h⟩ := h
    obtain ⟨v, ev, q⟩ := r.sh i _ e
    cases q
    by_cases nd : ∀ ks, d ≠ .dic ks
    · obtain ⟨G', s, rp⟩ := Step.freeze g nd ed
      exact ⟨_, ev, .inl (h _ G' H s rp)⟩
    · have : ∃ ks, d = .dic ks := Classical.byContradiction fun z => nd fun ks e => z ⟨ks, e⟩
      obtain ⟨ks, rfl⟩ := this
      obtain ⟨kvs, hp, f⟩ := Step.freezeD g ed
      refine ⟨_, ev, .inr ⟨p, _, rfl, hp, trivial, fun od => ?_⟩⟩
      obtain ⟨G', s, rp⟩ := f od
      exact h _ G' _ s rp
  · exact h.elim
abbrev dC (d : D) : DE := fun _ O Q _ => Q d O
theorem mo_c (d : D) : Mo (dC d) := fun _ _ _ _ _ _ h _ x => h _ _ x
theorem d_c {v : V} {d : D} (h : PE X e (tC v)) (r : ∀ G, Rp X.K G v d) : DPE X L e (dC d) :=
  ⟨mo_c d, pe_imp h fun σ H Q ⟨G, O, ρ, g, _, q⟩ => q v G H (Step.refl g) (r G)⟩
theorem d_int {i j} : DPE X L (.Constant (.int i) j pos) (dC (.int i)) := d_c pe_int fun _ => .int i
theorem d_bl {i j} : DPE X L (.Constant (.bool i) j pos) (dC (.bl i)) := d_c pe_bl fun _ => .bl i
theorem d_str {i j} : DPE X L (.Constant (.str i) j pos) (dC (.str i)) := d_c pe_str fun _ => .str i
theorem d_non {j} : DPE X L (.Constant .none j pos) (dC .non) := d_c pe_non fun _ => .non
abbrev D2 := Ow → D → D → (D → Prop) → Prop
abbrev pu (o : D → D → (D → Prop) → Prop) : D2 := fun _ => o
def MoO (o : D2) : Prop := ∀ O x y Q Q', (∀ d, Q d → Q' d) → o O x y Q → o O x y Q'
def RunO (K : PySem.W.Frag) (B : Bo) (r : R2) (o : D2) : Prop := ∀ O G H x y a b Q, Good K B O G H → Rp K G x a → Rp K G y b → o O a b (fun d => kv K B O G H Q d O) → r x y H Q
structure OpD (X : Cx) (B : Bo) (f : Value → Value → Sem Value) (o : D2) : Prop where
  mo : MoO o
  run : ∃ r, OpR X f r ∧ RunO X.K B r o
abbrev dOp (o : D2) (ma mb : DE) : DE := fun ρ O Q E => ma ρ O (fun x O1 => mb ρ O1 (fun y O2 => o O2 x y fun d => Q d O2) E) E
theorem mo_op {o : D2} (ho : MoO o) (ha : Mo ma) (hb : Mo mb) : Mo (dOp o ma mb) := fun ρ O Q Q' E E' h hx x =>
  ha ρ _ _ _ _ _ (fun _ _ q => hb ρ _ _ _ _ _ (fun _ _ z => ho _ _ _ _ _ (fun _ => h _ _) z) hx q) hx x
theorem run_op {r : R2} {o : D2} {B : Bo} {Q : VK} (hr : RunO K B r o) (mo : MoO o) (ha : Mo ma) (hb : Mo mb)
    (h : up K B W (dOp o ma mb) σ H Q) : tOp r (up K B W ma) (up K B W mb) σ H Q := by
  obtain ⟨G, O, ρ, g, rs, q⟩ := h
  refine up_of ha g rs q fun x vx O1 G1 H1 q1 s1 r1 => ?_
  refine up_of hb s1.good (rs.step s1) (mo_step hb s1 q1) fun y vy O2 G2 H2 q2 s2 r2 => ?_
  exact hr O2 G2 H2 vx vy x y Q s2.good (r1.mono s2.grow) r2 (mo _ _ _ _ _ (fun _ z => z.step (s1.trans s2)) q2)
theorem d_op {op : Operator} {o : D2} (ho : OpD X L.B (binaryOp op) o) (ha : DPE X L a ma) (hb : DPE X L b mb) : DPE X L (.BinOp a op b pos) (dOp o ma mb) := by
  obtain ⟨mo, r, hr, h⟩ := ho
  exact ⟨mo_op mo ha.mo hb.mo, pe_imp (pe_op hr ha.run hb.run) fun σ H Q q => run_op h mo ha.mo hb.mo q⟩
theorem d_cmp {op : CmpOp} {o : D2} (ho : OpD X L.B (compareOp op) o) (ha : DPE X L a ma) (hb : DPE X L b mb) (hm : behindInMarks op b = false) : DPE X L (.Compare a [op] [b] pos) (dOp o ma mb) := by
  obtain ⟨mo, r, hr, h⟩ := ho
  exact ⟨mo_op mo ha.mo hb.mo, pe_imp (pe_cmpR hr ha.run hb.run hm) fun σ H Q q => run_op h mo ha.mo hb.mo q⟩
/-- by a bool -/
def bc (c : Bool) (A B : Prop) : Prop := match c with
  | true => A
  | false => B
/-- a bool -/
abbrev bD : D → (Bool → Prop) → Prop
  | .bl b, Q => Q b
  | _, _ => False
theorem bD_mo {d : D} {Q Q' : Bool → Prop} (h : ∀ b, Q b → Q' b) (z : bD d Q) : bD d Q' := by
  cases d <;> first | exact h _ z | exact z
theorem bD_run {d : D} {v : V} {Q : Bool → Prop} (r : Rp K G v d) (z : bD d Q) : ∃ k, v = .bl k ∧ Q k := by
  cases r <;> first | exact ⟨_, rfl, z⟩ | exact z.elim
/-- a op b op' c -/
abbrev dChain (o o' : D2) (ma mb mc : DE) : DE := fun ρ O Q E => ma ρ O (fun x O1 => mb ρ O1 (fun y O2 => o O2 x y fun z => bD z fun k => bc k (mc ρ O2 (fun w O3 => o' O3 y w fun d => Q d O3) E) (Q (.bl false) O2)) E) E
theorem mo_chain {o o' : D2} (ho : MoO o) (ho' : MoO o') (ha : Mo ma) (hb : Mo mb) (hc : Mo mc) : Mo (dChain o o' ma mb mc) := fun ρ O Q Q' E E' h hx x =>
  ha ρ _ _ _ _ _ (fun _ _ q => hb ρ _ _ _ _ _ (fun _ _ z => ho _ _ _ _ _ (fun d y => bD_mo (fun k y => by
    cases k with
    | true => exact hc ρ _ _ _ _ _ (fun _ _ w => ho' _ _ _ _ _ (fun _ => h _ _) w) hx y
    | false => exact h _ _ y) y) z) hx q) hx x
theorem run_chain {r r' : R2} {o o' : D2} {B : Bo} {Q : VK} (h : RunO K B r o) (mo : MoO o) (h' : RunO K B r' o') (mo' : MoO o') (ha : Mo ma) (hb : Mo mb) (hc : Mo mc)
    (q : up K B W (dChain o o' ma mb mc) σ H Q) : tChain r r' (up K B W ma) (up K B W mb) (up K B W mc) σ H Q := by
  obtain ⟨G, O, ρ, g, rs, q⟩ := q
  refine up_of ha g rs q fun x vx O1 G1 H1 q1 s1 r1 => ?_
  refine up_of hb s1.good (rs.step s1) (mo_step hb s1 q1) fun y vy O2 G2 H2 q2 s2 r2 => ?_
  refine h O2 G2 H2 vx vy x y _ s2.good (r1.mono s2.grow) r2 (mo _ _ _ _ _ (fun z hz v G3 H3 s3 r3 => ?_) q2)
  have s13 := (s1.trans s2).trans s3
  obtain ⟨k, rfl, hz⟩ := bD_run r3 hz
  cases k with
  | true =>
    refine ⟨true, rfl, iteT ?_⟩
    refine up_of hc s3.good (rs.step s13) (mo_step hc s13 hz) fun w vw O4 G4 H4 q4 s4 r4 => ?_
    exact h' O4 G4 H4 vy vw y w Q s4.good (r2.mono (s3.trans s4).grow) r4 (mo' _ _ _ _ _ (fun _ z => z.step (s13.trans s4)) q4)
  | false => exact ⟨false, rfl, iteF (hz _ _ _ s13 (.bl false))⟩
theorem d_chain {op op' : CmpOp} {o o' : D2} (ho : OpD X L.B (compareOp op) o) (ho' : OpD X L.B (compareOp op') o') (ha : DPE X L a ma) (hb : DPE X L b mb) (hc : DPE X L c mc) (hm : lastMarks [op, op'] [b, c] = false) :
    DPE X L (.Compare a [op, op'] [b, c] pos) (dChain o o' ma mb mc) := by
  obtain ⟨mo, r, hr, h⟩ := ho
  obtain ⟨mo', r', hr', h'⟩ := ho'
  exact ⟨mo_chain mo mo' ha.mo hb.mo hc.mo, pe_imp (pe_chain hr hr' ha.run hb.run hc.run hm) fun σ H Q q => run_chain h mo h' mo' ha.mo hb.mo hc.mo q⟩
end
end EV
set_option Elab.async false
set_option linter.all false
set_option maxRecDepth 100000
set_option maxHeartbeats 4000000
namespace EV
open PySem PySem.Spec PyProof.Rows L2
/-- what a handle holds -/
abbrev lk (O : Ow) : D → D
  | .opq (.ref p) => (O p).getD (.opq (.ref p))
  | d => d
def RpX (K : PySem.W.Frag) (G H : Hp) (v : V) (d : D) : Prop := Rp K G v d ∨ ∃ p, v = .ref p ∧ RpO K G H p d
theorem lk_of {O : Ow} {p : Addr} {d : D} (h : O p = some d) : lk O (.opq (.ref p)) = d := by unfold lk; simp [h]
section
variable {K : PySem.W.Frag} {B : Bo} {O : Ow} {G H : Hp}
theorem lk_rp {v : V} {d : D} (g : Good K B O G H) (r : Rp K G v d) : RpX K G H v (lk O d) := by
  cases r with
  | opq v =>
    cases v with
    | ref p =>
      cases e : O p with
      | none => exact .inl (by have q : lk O (.opq (.ref p)) = .opq (.ref p) := by unfold lk; simp [e]
                               rw [q]; exact .opq _)
      | some d => exact .inr ⟨p, rfl, by
          have q : lk O (.opq (.ref p)) = d := by unfold lk; simp [e]
          rw [q]; exact (g.own p d e).2.2⟩
    | _ => exact .inl (.opq _)
  | non => exact .inl .non
  | bl => exact .inl (.bl _)
  | int => exact .inl (.int _)
  | str => exact .inl (.str _)
  | lst a b => exact .inl (.lst a b)
  | tup a b => exact .inl (.tup a b)
  | dic a b => exact .inl (.dic a b)
  | ins a b => exact .inl (.ins a b)
  | exc a b c d => exact .inl (.exc a b c d)
  | lam a b c => exact .inl (.lam a b c)
  | nk a => exact .inl (.nk a)
theorem RpX.lst {v : V} {ds : List D} (s : Sub G H) (h : RpX K G H v (.lst ds)) : ∃ a vs, v = .ref a ∧ H a = some (.lst vs) ∧ RpL K G vs ds := by
  rcases h with h | ⟨p, rfl, vs, e, r⟩
  · cases h with | lst a b => exact ⟨_, _, rfl, s _ _ a, b⟩
  · exact ⟨p, vs, rfl, e, r⟩
theorem RpX.tup {v : V} {ds : List D} (s : Sub G H) (h : RpX K G H v (.tup ds)) : ∃ a vs, v = .ref a ∧ SqT K H a vs ∧ RpL K G vs ds := by
  rcases h with h | ⟨p, rfl, r⟩
  · cases h with | tup a b => exact ⟨_, _, rfl, s.sqT a, b⟩
  · exact r.elim
theorem RpX.dic {v : V} {ds : List (Key × D)} (s : Sub G H) (h : RpX K G H v (.dic ds)) : ∃ a vs, v = .ref a ∧ Rd H a (.dK vs) ∧ RpK K G vs ds := by
  rcases h with h | ⟨p, rfl, vs, e, r⟩
  · cases h with | dic a b => exact ⟨_, _, rfl, .inr ⟨_, s _ _ a⟩, b⟩
  · exact ⟨p, vs, rfl, .inl e, r⟩
theorem RpX.ins {v : V} {C : Addr} {ds : List (Str × D)} (s : Sub G H) (h : RpX K G H v (.ins C ds)) : ∃ a dx fs, v = .ref a ∧ H a = some (.ins C dx fs) ∧ RpF K G fs ds := by
  rcases h with h | ⟨p, rfl, dx, fs, e, r⟩
  · cases h with | ins a b => exact ⟨_, _, _, rfl, s _ _ a, b⟩
  · exact ⟨p, dx, fs, rfl, e, r⟩
theorem RpX.str {v : V} {x : Str} (h : RpX K G H v (.str x)) : v = .str x := by
  rcases h with h | ⟨p, rfl, r⟩
  · cases h; rfl
  · exact r.elim
theorem RpX.int {v : V} {x : Int} (h : RpX K G H v (.int x)) : v = .int x := by
  rcases h with h | ⟨p, rfl, r⟩
  · cases h; rfl
  · exact r.elim
theorem RpX.bl {v : V} {x : Bool} (h : RpX K G H v (.bl x)) : v = .bl x := by
  rcases h with h | ⟨p, rfl, r⟩
  · cases h; rfl
  · exact r.elim
theorem RpX.non {v : V} (h : RpX K G H v .non) : v = .non := by
  rcases h with h | ⟨p, rfl, r⟩
  · cases h; rfl
  · exact r.elim
theorem RpL.isEmpty {vs : List V} {ds : List D} (r : RpL K G vs ds) : vs.isEmpty = ds.isEmpty := by cases r <;> rfl
end
section
variable {X : Cx} {L : Pl} {e a b c : Expr} {es rest : List Expr} {m ma mb mc : DE} {mt mu : DT} {mA : DA} {pos p : Pos}
variable {K : PySem.W.Frag} {B : Bo} {O : Ow} {W : L2.St → XK} {G H : Hp} {σ : L2.St} {ρ : Slots}
abbrev truD : D → (Bool → Prop) → Prop
  | .non, Q => Q false
  | .bl b, Q => Q b
  | .int i, Q => Q (i != 0)
  | .str y, Q => y.length ≤ sizeLine ∧ Q ((y.length : Int) != 0)
  | .lst xs, Q => Q (!xs.isEmpty)
  | .tup xs, Q => Q (!xs.isEmpty)
  | _, _ => False
theorem truD_mo : ∀ {d : D} {Q Q' : Bool → Prop}, (∀ b, Q b → Q' b) → truD d Q → truD d Q'
  | .non, _, _, h, x => h _ x
  | .bl _, _, _, h, x => h _ x
  | .int _, _, _, h, x => h _ x
  | .str _, _, _, h, x => ⟨x.1, h _ x.2⟩
  | .lst _, _, _, h, x => h _ x
  | .tup _, _, _, h, x => h _ x
theorem truD_run {d : D} {v : V} {Q : Bool → Prop} (s : Sub G H) (r : RpX K G H v d) (h : truD d Q) : ∃ k, TruV K v H k ∧ Q k := by
  cases d with
  | non => rw [r.non]; exact ⟨_, rfl, h⟩
  | bl b => rw [r.bl]; exact ⟨_, rfl, h⟩
  | int i => rw [r.int]; exact ⟨_, rfl, h⟩
  | str x => rw [r.str]; exact ⟨_, ⟨h.1, rfl⟩, h.2⟩
  | lst q => obtain ⟨a, vs, rfl, e, rl⟩ := r.lst s; exact ⟨_, .inl ⟨_, .inl (.inl e), rfl⟩, by rw [rl.isEmpty]; exact h⟩
  | tup q => obtain ⟨a, vs, rfl, e, rl⟩ := r.tup s; exact ⟨_, .inr (.inl ⟨_, e, rfl⟩), by rw [rl.isEmpty]; exact h⟩
  | _ => exact h.elim
abbrev dTest (m : DE) : DT := fun ρ O Q E => m ρ O (fun x O1 => truD (lk O1 x) fun b => Q b O1) E
theorem mo_test (h : Mo m) : Mo (dTest m) := fun ρ O Q Q' E E' q hx x => h ρ _ _ _ _ _ (fun _ _ z => truD_mo (fun _ => q _ _) z) hx x
theorem d_test (h : DPE X L a m) (he : ∀ whole, isTrue a X.env whole = (do let v ← whole; standAt a.pos; holding [v] (truthy v))) : DPT X L a (dTest m) := by
  refine ⟨mo_test h.mo, pt_imp (pt_truth h.run he) fun σ H Q ⟨G, O, ρ, g, rs, q⟩ => ?_⟩
  refine up_of h.mo g rs q fun x v O1 G1 H1 q1 s1 r1 => ?_
  obtain ⟨k, t, z⟩ := truD_run s1.good.sub (lk_rp s1.good r1) q1
  exact ⟨k, t, z _ _ s1⟩
/-- a comparison as a test: its answer is a bool -/
abbrev dTestB (m : DE) : DT := fun ρ O Q E => m ρ O (fun x O1 => bD x fun b => Q b O1) E
theorem mo_testB (h : Mo m) : Mo (dTestB m) := fun ρ O Q Q' E E' q hx x => h ρ _ _ _ _ _ (fun d _ z => bD_mo (fun _ => q _ _) z) hx x
theorem run_testB {Q : Bool → Hp → Prop} (hm : Mo m) (h : upT K B W (dTestB m) σ H Q) : up K B W m σ H (fun x H' => ∃ k, x = .bl k ∧ Q k H') := by
  obtain ⟨G, O, ρ, g, rs, q⟩ := h
  refine up_of hm g rs q fun x v O1 G1 H1 q1 s1 r1 => ?_
  obtain ⟨k, rfl, q1⟩ := bD_run r1 q1
  exact ⟨_, rfl, q1 _ _ s1⟩
theorem d_tcmp {op : CmpOp} {o : D2} (ho : OpD X L.B (compareOp op) o) (ha : DPE X L a ma) (hb : DPE X L b mb) (hm : behindInMarks op b = false) : DPT X L (.Compare a [op] [b] pos) (dTestB (dOp o ma mb)) := by
  obtain ⟨mo, r, hr, h⟩ := ho
  refine ⟨mo_testB (mo_op mo ha.mo hb.mo), pt_imp (pt_cmpR hr ha.run hb.run hm) fun σ H Q q => ?_⟩
  exact run_op h mo ha.mo hb.mo (run_testB (mo_op mo ha.mo hb.mo) q)
theorem d_tchain {op op' : CmpOp} {o o' : D2} (ho : OpD X L.B (compareOp op) o) (ho' : OpD X L.B (compareOp op') o') (ha : DPE X L a ma) (hb : DPE X L b mb) (hc : DPE X L c mc) (hm : lastMarks [op, op'] [b, c] = false) :
    DPT X L (.Compare a [op, op'] [b, c] pos) (dTestB (dChain o o' ma mb mc)) := by
  obtain ⟨mo, r, hr, h⟩ := ho
  obtain ⟨mo', r', hr', h'⟩ := ho'
  have mm := mo_chain mo mo' ha.mo hb.mo hc.mo
  refine ⟨mo_testB mm, pt_imp (pt_chain hr hr' ha.run hb.run hc.run hm) fun σ H Q q => ?_⟩
  exact run_chain h mo h' mo' ha.mo hb.mo hc.mo (run_testB mm q)
abbrev dAnd (t u : DT) : DT := fun ρ O Q E => t ρ O (fun c O1 => bc c (u ρ O1 Q E) (Q false O1)) E
abbrev dOr (t u : DT) : DT := fun ρ O Q E => t ρ O (fun c O1 => bc c (Q true O1) (u ρ O1 Q E)) E
abbrev dNot (t : DT) : DT := fun ρ O Q E => t ρ O (fun c O1 => Q (!c) O1) E
theorem mo_and (ht : Mo mt) (hu : Mo mu) : Mo (dAnd mt mu) := fun ρ O Q Q' E E' q hx x => ht ρ _ _ _ _ _ (fun c _ z => by cases c <;> first | exact hu ρ _ _ _ _ _ q hx z | exact q _ _ z) hx x
theorem mo_or (ht : Mo mt) (hu : Mo mu) : Mo (dOr mt mu) := fun ρ O Q Q' E E' q hx x => ht ρ _ _ _ _ _ (fun c _ z => by cases c <;> first | exact hu ρ _ _ _ _ _ q hx z | exact q _ _ z) hx x
theorem mo_not (ht : Mo mt) : Mo (dNot mt) := fun ρ O Q Q' E E' q hx x => ht ρ _ _ _ _ _ (fun _ _ z => q _ _ z) hx x
theorem d_and1 (h : DPT X L a mt) : DPW X L (.BoolOp .And [a] pos) mt := ⟨h.mo, pw_and1 h.run⟩
theorem d_or1 (h : DPT X L a mt) : DPW X L (.BoolOp .Or [a] pos) mt := ⟨h.mo, pw_or1 h.run⟩
/-- go on from a later state -/
theorem upT_on {R : Bool → Hp → Prop} {O1 : Ow} {G1 H1 : Hp} (mo : Mo mt) (rs : RpS K G σ ρ) (s : Step K B O G H O1 G1 H1) (h : mt ρ O1 (kb K B O G H R) (kx K B O G H (W σ))) : upT K B W mt σ H1 R :=
  ⟨G1, O1, ρ, s.good, rs.step s, mo ρ _ _ _ _ _ (fun _ _ z => z.step s) (fun _ _ z => z.step s) h⟩
theorem up_on {R : VK} {O1 : Ow} {G1 H1 : Hp} (mo : Mo m) (rs : RpS K G σ ρ) (s : Step K B O G H O1 G1 H1) (h : m ρ O1 (kv K B O G H R) (kx K B O G H (W σ))) : up K B W m σ H1 R :=
  ⟨G1, O1, ρ, s.good, rs.step s, mo ρ _ _ _ _ _ (fun _ _ z => z.step s) (fun _ _ z => z.step s) h⟩
theorem d_wand (h : DPT X L a mt) (hb : DPW X L (.BoolOp .And (b :: rest) pos) mu) : DPW X L (.BoolOp .And (a :: b :: rest) pos) (dAnd mt mu) := by
  refine ⟨mo_and h.mo hb.mo, pw_imp (pw_and h.run hb.run) fun σ H Q ⟨G, O, ρ, g, rs, q⟩ => ?_⟩
  refine upT_of h.mo g rs q fun c O1 G1 H1 q1 s1 => ?_
  cases c with
  | true => exact iteT (upT_on hb.mo rs s1 q1)
  | false => exact iteF (q1 _ _ s1)
theorem d_wor (h : DPT X L a mt) (hb : DPW X L (.BoolOp .Or (b :: rest) pos) mu) : DPW X L (.BoolOp .Or (a :: b :: rest) pos) (dOr mt mu) := by
  refine ⟨mo_or h.mo hb.mo, pw_imp (pw_or h.run hb.run) fun σ H Q ⟨G, O, ρ, g, rs, q⟩ => ?_⟩
  refine upT_of h.mo g rs q fun c O1 G1 H1 q1 s1 => ?_
  cases c with
  | false => exact iteF (upT_on hb.mo rs s1 q1)
  | true => exact iteT (q1 _ _ s1)
theorem DPW.pt (h : DPW X L e mt) : DPT X L e mt := ⟨h.mo, h.run.pt⟩
theorem d_tnot (h : DPT X L a mt) : DPT X L (.UnaryOp .Not a pos) (dNot mt) := by
  refine ⟨mo_not h.mo, pt_imp (pt_not h.run) fun σ H Q ⟨G, O, ρ, g, rs, q⟩ => ?_⟩
  exact upT_of h.mo g rs q fun c O1 G1 H1 q1 s1 => q1 _ _ s1
abbrev dAndV (ma mb : DE) : DE := fun ρ O Q E => ma ρ O (fun x O1 => truD (lk O1 x) fun k => bc k (mb ρ O1 Q E) (Q x O1)) E
abbrev dOrV (ma mb : DE) : DE := fun ρ O Q E => ma ρ O (fun x O1 => truD (lk O1 x) fun k => bc k (Q x O1) (mb ρ O1 Q E)) E
abbrev dNotV (ma : DE) : DE := fun ρ O Q E => ma ρ O (fun x O1 => truD (lk O1 x) fun k => Q (.bl (!k)) O1) E
theorem mo_andV (ha : Mo ma) (hb : Mo mb) : Mo (dAndV ma mb) := fun ρ O Q Q' E E' q hx x => ha ρ _ _ _ _ _ (fun _ _ z => truD_mo (fun k y => by cases k <;> first | exact hb ρ _ _ _ _ _ q hx y | exact q _ _ y) z) hx x
theorem mo_orV (ha : Mo ma) (hb : Mo mb) : Mo (dOrV ma mb) := fun ρ O Q Q' E E' q hx x => ha ρ _ _ _ _ _ (fun _ _ z => truD_mo (fun k y => by cases k <;> first | exact hb ρ _ _ _ _ _ q hx y | exact q _ _ y) z) hx x
theorem mo_notV (ha : Mo ma) : Mo (dNotV ma) := fun ρ O Q Q' E E' q hx x => ha ρ _ _ _ _ _ (fun _ _ z => truD_mo (fun k y => q _ _ y) z) hx x
theorem d_one {op} (h : DPE X L a m) : DPE X L (.BoolOp op [a] pos) m := ⟨h.mo, pe_one h.run⟩
theorem d_and (ha : DPE X L a ma) (hb : DPE X L (.BoolOp .And (b :: rest) pos) mb) : DPE X L (.BoolOp .And (a :: b :: rest) pos) (dAndV ma mb) := by
  refine ⟨mo_andV ha.mo hb.mo, pe_imp (pe_andT ha.run hb.run) fun σ H Q ⟨G, O, ρ, g, rs, q⟩ => ?_⟩
  refine up_of ha.mo g rs q fun x v O1 G1 H1 q1 s1 r1 => ?_
  obtain ⟨k, t, z⟩ := truD_run s1.good.sub (lk_rp s1.good r1) q1
  refine ⟨k, t, ?_⟩
  cases k with
  | true => exact iteT (up_on hb.mo rs s1 z)
  | false => exact iteF (z _ _ _ s1 r1)
theorem d_or (ha : DPE X L a ma) (hb : DPE X L (.BoolOp .Or (b :: rest) pos) mb) : DPE X L (.BoolOp .Or (a :: b :: rest) pos) (dOrV ma mb) := by
  refine ⟨mo_orV ha.mo hb.mo, pe_imp (pe_orT ha.run hb.run) fun σ H Q ⟨G, O, ρ, g, rs, q⟩ => ?_⟩
  refine up_of ha.mo g rs q fun x v O1 G1 H1 q1 s1 r1 => ?_
  obtain ⟨k, t, z⟩ := truD_run s1.good.sub (lk_rp s1.good r1) q1
  refine ⟨k, t, ?_⟩
  cases k with
  | false => exact iteF (up_on hb.mo rs s1 z)
  | true => exact iteT (z _ _ _ s1 r1)
theorem d_not (ha : DPE X L a ma) : DPE X L (.UnaryOp .Not a pos) (dNotV ma) := by
  refine ⟨mo_notV ha.mo, pe_imp (pe_notT ha.run) fun σ H Q ⟨G, O, ρ, g, rs, q⟩ => ?_⟩
  refine up_of ha.mo g rs q fun x v O1 G1 H1 q1 s1 r1 => ?_
  obtain ⟨k, t, z⟩ := truD_run s1.good.sub (lk_rp s1.good r1) q1
  exact ⟨k, t, z _ _ _ s1 (.bl _)⟩
abbrev dIf (t : DT) (ma mb : DE) : DE := fun ρ O Q E => t ρ O (fun c O1 => bc c (ma ρ O1 Q E) (mb ρ O1 Q E)) E
theorem mo_if (ht : Mo mt) (ha : Mo ma) (hb : Mo mb) : Mo (dIf mt ma mb) := fun ρ O Q Q' E E' q hx x => ht ρ _ _ _ _ _ (fun c _ z => by cases c <;> first | exact hb ρ _ _ _ _ _ q hx z | exact ha ρ _ _ _ _ _ q hx z) hx x
theorem d_if (hc : DPT X L c mt) (ha : DPE X L a ma) (hb : DPE X L b mb) : DPE X L (.IfExp c a b pos) (dIf mt ma mb) := by
  refine ⟨mo_if hc.mo ha.mo hb.mo, pe_imp (pe_ifExp hc.run ha.run hb.run) fun σ H Q ⟨G, O, ρ, g, rs, q⟩ => ?_⟩
  refine upT_of hc.mo g rs q fun c O1 G1 H1 q1 s1 => ?_
  cases c with
  | true => exact iteT (up_on ha.mo rs s1 q1)
  | false => exact iteF (up_on hb.mo rs s1 q1)
abbrev dNil : DA := fun _ O Q _ => Q [] O
abbrev dCons (ma : DE) (mr : DA) : DA := fun ρ O Q E => ma ρ O (fun x O1 => mr ρ O1 (fun xs O2 => Q (x :: xs) O2) E) E
theorem mo_nil : Mo dNil := fun _ _ _ _ _ _ q _ x => q _ _ x
theorem mo_cons (ha : Mo ma) (hr : Mo mA) : Mo (dCons ma mA) := fun ρ O Q Q' E E' q hx x => ha ρ _ _ _ _ _ (fun _ _ z => hr ρ _ _ _ _ _ (fun _ _ y => q _ _ y) hx z) hx x
theorem d_nil : DPA X L [] dNil := ⟨mo_nil, pa_imp pa_nil fun σ H Q ⟨G, O, ρ, g, rs, q⟩ => q _ _ _ (Step.refl g) .nil⟩
theorem d_cons (ha : DPE X L e m) (hr : DPA X L es mA) (hs : starEach (e :: es) X.env = (false, eval e X.env) :: starEach es X.env) : DPA X L (e :: es) (dCons m mA) := by
  refine ⟨mo_cons ha.mo hr.mo, pa_imp (pa_cons ha.run hr.run hs) fun σ H Q ⟨G, O, ρ, g, rs, q⟩ => ?_⟩
  refine up_of ha.mo g rs q fun x v O1 G1 H1 q1 s1 r1 => ?_
  exact upA_of hr.mo s1.good (rs.step s1) (mo_step hr.mo s1 q1) fun xs vs O2 G2 H2 q2 s2 r2 => q2 _ _ _ (s1.trans s2) (.cons (r1.mono s2.grow) r2)
abbrev dTup (mA : DA) : DE := fun ρ O Q E => mA ρ O (fun xs O1 => xs.length ≤ sizeLine ∧ Q (.tup xs) O1) E
abbrev dLst (mA : DA) : DE := fun ρ O Q E => mA ρ O (fun xs O1 => xs.length ≤ sizeLine ∧ Q (.lst xs) O1) E
theorem mo_tup (h : Mo mA) : Mo (dTup mA) := fun ρ O Q Q' E E' q hx x => h ρ _ _ _ _ _ (fun _ _ z => ⟨z.1, q _ _ z.2⟩) hx x
theorem mo_lst (h : Mo mA) : Mo (dLst mA) := fun ρ O Q Q' E E' q hx x => h ρ _ _ _ _ _ (fun _ _ z => ⟨z.1, q _ _ z.2⟩) hx x
theorem new_tup {vs : List V} {ds : List D} {q : Addr} (g : Good K B O G H) (n : H q = none) (r : RpL K G vs ds) : Rp K (upd G q (.tup vs)) (.ref q) (.tup ds) :=
  .tup (.inl (.inl upd_same)) (r.mono (Step.new g n).grow)
theorem new_lst {vs : List V} {ds : List D} {q : Addr} (g : Good K B O G H) (n : H q = none) (r : RpL K G vs ds) : Rp K (upd G q (.lst vs)) (.ref q) (.lst ds) :=
  .lst upd_same (r.mono (Step.new g n).grow)
theorem d_tup {x1} (h : DPA X L es mA) : DPE X L (.Tuple es x1 pos) (dTup mA) := by
  refine ⟨mo_tup h.mo, pe_imp (pe_tup h.run) fun σ H Q ⟨G, O, ρ, g, rs, q⟩ => ?_⟩
  exact upA_of h.mo g rs q fun xs vs O1 G1 H1 q1 s1 r1 => ⟨by rw [r1.length]; exact q1.1, fun p np => q1.2 _ _ _ (s1.trans (Step.new s1.good np)) (new_tup s1.good np r1)⟩
theorem d_lst (h : DPA X L es mA) : DPE X L (.List es pos) (dLst mA) := by
  refine ⟨mo_lst h.mo, pe_imp (pe_lst h.run) fun σ H Q ⟨G, O, ρ, g, rs, q⟩ => ?_⟩
  exact upA_of h.mo g rs q fun xs vs O1 G1 H1 q1 s1 r1 => ⟨by rw [r1.length]; exact q1.1, fun p np => q1.2 _ _ _ (s1.trans (Step.new s1.good np)) (new_lst s1.good np r1)⟩
/-- a new handle -/
theorem new_own {q : Addr} {o : HO} {d : D} (g : Good K B O G H) (n : H q = none) (r : RpO K G (upd H q o) q d) : Step K B O G H (oset O q d) G (upd H q o) :=
  Step.put g (g.freshG n) (g.nhid n) r (.inr n)
/-- a list of one's own -/
abbrev dLstO (mA : DA) : DE := fun ρ O Q E => mA ρ O (fun xs O1 => xs.length ≤ sizeLine ∧ ∀ p, O1 p = none → Q (.opq (.ref p)) (oset O1 p (.lst xs))) E
theorem mo_lstO (h : Mo mA) : Mo (dLstO mA) := fun ρ O Q Q' E E' q hx x => h ρ _ _ _ _ _ (fun _ _ z => ⟨z.1, fun p n => q _ _ (z.2 p n)⟩) hx x
theorem d_lstO (h : DPA X L es mA) : DPE X L (.List es pos) (dLstO mA) := by
  refine ⟨mo_lstO h.mo, pe_imp (pe_lst h.run) fun σ H Q ⟨G, O, ρ, g, rs, q⟩ => ?_⟩
  exact upA_of h.mo g rs q fun xs vs O1 G1 H1 q1 s1 r1 => ⟨by rw [r1.length]; exact q1.1, fun p np => q1.2 p (s1.good.fresh np) _ _ _ (s1.trans (new_own s1.good np ⟨vs, upd_same, r1⟩)) (.opq _)⟩
abbrev DC := Ow → List D → (D → Prop) → Prop
abbrev pc (o : List D → (D → Prop) → Prop) : DC := fun _ => o
def MoC (o : DC) : Prop := ∀ O x Q Q', (∀ d, Q d → Q' d) → o O x Q → o O x Q'
def RunC (K : PySem.W.Frag) (B : Bo) (r : List V → Hp → VK → Prop) (o : DC) : Prop := ∀ O G H vs ds Q, Good K B O G H → RpL K G vs ds → o O ds (fun d => kv K B O G H Q d O) → r vs H Q
structure CallD (X : Cx) (B : Bo) (f : Value) (o : DC) : Prop where
  mo : MoC o
  run : ∃ r, CallR X f r ∧ RunC X.K B r o
abbrev dCB (o : DC) (mA : DA) : DE := fun ρ O Q E => mA ρ O (fun xs O1 => o O1 xs fun d => Q d O1) E
theorem mo_cb {o : DC} (ho : MoC o) (h : Mo mA) : Mo (dCB o mA) := fun ρ O Q Q' E E' q hx x => h ρ _ _ _ _ _ (fun _ _ z => ho _ _ _ _ (fun _ => q _ _) z) hx x
theorem run_cb {r : List V → Hp → VK → Prop} {o : DC} {Q : VK} (hr : RunC K B r o) (mo : MoC o) (h : Mo mA)
    (q : up K B W (dCB o mA) σ H Q) : tCB r (upA K B W mA) σ H Q := by
  obtain ⟨G, O, ρ, g, rs, q⟩ := q
  exact upA_of h g rs q fun xs vs O1 G1 H1 q1 s1 r1 => hr O1 G1 H1 vs xs Q s1.good r1 (mo _ _ _ _ (fun _ z => z.step s1) q1)
theorem d_callB {x : Str} {id : String} {o : DC} (hc : CallD X L.B (.builtin id) o) (hg : Gl X x) (hm : X.mg x = none) (hv : bootBuiltins x = some (.builtin id)) (ha : DPA X L (e :: es) mA) (hn : x ≠ "__name__") (hdb : (x == ("__debug__" : Str)) = false)
    (he : starEach (e :: es) X.env = (false, eval e X.env) :: starEach es X.env) (hpl : (backTo pos (starEach es X.env)).any (·.1) = false) : DPE X L (.Call (.Name x p) (e :: es) [] pos) (dCB o mA) := by
  obtain ⟨mo, r, hr, h⟩ := hc
  exact ⟨mo_cb mo ha.mo, pe_imp (pe_callB hr hg hm hv ha.run hn hdb he hpl) fun σ H Q q => run_cb h mo ha.mo q⟩
theorem d_callTy {x : Str} {T : String} {o : DC} (hc : CallD X L.B (.type T) o) (hg : Gl X x) (hm : X.mg x = none) (hv : bootBuiltins x = some (.type T)) (ha : DPA X L (e :: es) mA) (hn : x ≠ "__name__") (hdb : (x == ("__debug__" : Str)) = false)
    (he : starEach (e :: es) X.env = (false, eval e X.env) :: starEach es X.env) (hpl : (backTo pos (starEach es X.env)).any (·.1) = false) : DPE X L (.Call (.Name x p) (e :: es) [] pos) (dCB o mA) := by
  obtain ⟨mo, r, hr, h⟩ := hc
  exact ⟨mo_cb mo ha.mo, pe_imp (pe_callTy hr hg hm hv ha.run hn hdb he hpl) fun σ H Q q => run_cb h mo ha.mo q⟩
end
abbrev DSp := List D → Ow → QD → QX → Prop
/-- closed upward -/
def spM (sp : DSp) : DSp := fun ds O Q E => ∃ Q0 E0, sp ds O Q0 E0 ∧ (∀ d O, Q0 d O → Q d O) ∧ ∀ x O, E0 x O → E x O
theorem spM.of {sp : DSp} {ds : List D} {O : Ow} {Q : QD} {E : QX} (h : sp ds O Q E) : spM sp ds O Q E := ⟨Q, E, h, fun _ _ x => x, fun _ _ x => x⟩
def spD (K : PySem.W.Frag) (sp : DSp) : Sp := fun vs H Q E => ∃ G O ds, Good K bo0 O G H ∧ RpL K G vs ds ∧ spM sp ds O (kv K bo0 O G H Q) (kx K bo0 O G H E)
def spB (K : PySem.W.Frag) (sp : DSp) : Sp := fun vs H Q E => ∃ b l T ws G O ds, vs = .ref b :: ws ∧ Good K (boB b l T) O G H ∧ RpL K G ws ds ∧ spM sp ds O (kv K (boB b l T) O G H Q) (kx K (boB b l T) O G H E)
theorem no_hid {a : Addr} : ¬ Hid bo0 a := fun ⟨_, _, _, e, _⟩ => nomatch e
theorem Good.none {K : PySem.W.Frag} {B : Bo} {O : Ow} {G H : Hp} (g : Good K B O G H) : Good K bo0 O G H := ⟨g.sub, (fun _ _ _ e => nomatch e), (fun _ _ e => nomatch e), fun p d e => ⟨(g.own p d e).1, no_hid, (g.own p d e).2.2⟩⟩
theorem Step.lift {K : PySem.W.Frag} {B : Bo} {O O' : Ow} {G H G' H' : Hp} (g : Good K B O G H) (s : Step K bo0 O G H O' G' H') : Step K B O G H O' G' H' := by
  have hb : ∀ a, Hid B a → ∃ o, H a = some o ∧ G a = Option.none ∧ O a = Option.none := fun a h => by
    obtain ⟨o, e, _⟩ := g.hidH h
    exact ⟨o, e, g.hidG h, g.hidO h⟩
  refine ⟨s.grow, ⟨s.good.sub, fun b l T e => ?_, g.amb.trans s.grow, fun p d e => ⟨(s.good.own p d e).1, fun z => ?_, (s.good.own p d e).2.2⟩⟩, fun a o h _ n => s.keep a o h no_hid n, s.hid, s.still⟩
  · refine (g.box b l T e).step s.grow (fun a ha => ?_) fun a o ha h => ?_
    · obtain ⟨o, h, hG, hO⟩ := hb a ⟨b, l, T, e, ha⟩
      exact (s.hid _ _ h hG hO).1
    · exact s.keep _ _ h no_hid (g.hidO ⟨b, l, T, e, ha⟩)
  · obtain ⟨o, h, hG, hO⟩ := hb p z
    have := (s.hid _ _ h hG hO).2
    rw [e] at this; cases this
/-- the box alone, without what is around -/
theorem Good.box0 {K : PySem.W.Frag} {B : Bo} {b l : Addr} {T : List (Addr × Str)} {O : Ow} {G H : Hp} (g : Good K B O G H) (e : B.bx = some (b, l, T)) : Good K (boB b l T) O G H := ⟨g.sub, fun b' l' T' e' => g.box b' l' T' (e.trans e'), (fun _ _ e => nomatch e), fun p d q => ⟨(g.own p d q).1, fun ⟨b', l', T', e', h⟩ => (g.own p d q).2.1 ⟨b', l', T', e.trans e', h⟩, (g.own p d q).2.2⟩⟩
theorem Step.lift0 {K : PySem.W.Frag} {B : Bo} {b l : Addr} {T : List (Addr × Str)} {O O' : Ow} {G H G' H' : Hp} (g : Good K B O G H) (e : B.bx = some (b, l, T)) (s : Step K (boB b l T) O G H O' G' H') : Step K B O G H O' G' H' := by
  have hb : ∀ {a : Addr}, Hid (boB b l T) a ↔ Hid B a := fun {a} => ⟨fun ⟨b', l', T', e', h⟩ => ⟨b', l', T', e.trans e', h⟩, fun ⟨b', l', T', e', h⟩ => ⟨b', l', T', e.symm.trans e', h⟩⟩
  exact ⟨s.grow, ⟨s.good.sub, fun b' l' T' e' => s.good.box b' l' T' (e.symm.trans e'), g.amb.trans s.grow, fun p d q => ⟨(s.good.own p d q).1, fun z => (s.good.own p d q).2.1 (hb.mpr z), (s.good.own p d q).2.2⟩⟩, fun a o h n z => s.keep a o h (fun y => n (hb.mp y)) z, s.hid, s.still⟩
theorem kv.lift {K : PySem.W.Frag} {B : Bo} {O O' : Ow} {G H : Hp} {Q : VK} {d : D} (g : Good K B O G H) (h : kv K B O G H Q d O') : kv K bo0 O G H Q d O' := fun v G' H' s r => h v G' H' (s.lift g) r
theorem kx.lift {K : PySem.W.Frag} {B : Bo} {O O' : Ow} {G H : Hp} {E : XK} {x : Xc} (g : Good K B O G H) (h : kx K B O G H E x O') : kx K bo0 O G H E x O' := fun d fs G' H' s a r => h d fs G' H' (s.lift g) a r
end EV
set_option Elab.async false
set_option linter.all false
set_option maxRecDepth 100000
set_option maxHeartbeats 4000000
namespace EV
open PySem PySem.Spec PyProof.Rows L2
section
variable {X : Cx} {L : Pl} {e a b c : Expr} {es rest : List Expr} {m ma mb mc : DE} {mt mu : DT} {mA : DA} {pos p : Pos}
variable {K : PySem.W.Frag} {B : Bo} {O : Ow} {W : L2.St → XK} {G H : Hp} {σ : L2.St} {ρ : Slots}
abbrev dCall (sp : DSp) (mA : DA) : DE := fun ρ O Q E => mA ρ O (fun ds O1 => spM sp ds O1 Q E) E
theorem spM_mo {sp : DSp} {ds : List D} {O : Ow} {Q Q' : QD} {E E' : QX} (q : ∀ d O, Q d O → Q' d O) (x : ∀ d O, E d O → E' d O) (h : spM sp ds O Q E) : spM sp ds O Q' E' := by
  obtain ⟨Q0, E0, h, a, b⟩ := h
  exact ⟨Q0, E0, h, fun d O z => q _ _ (a _ _ z), fun d O z => x _ _ (b _ _ z)⟩
theorem mo_call {sp : DSp} (h : Mo mA) : Mo (dCall sp mA) := fun ρ O Q Q' E E' q hx x => h ρ _ _ _ _ _ (fun _ _ z => spM_mo q hx z) hx x
theorem d_call {CX : CXT} {k : Nat} {f : Addr} {fd : FuncData} {ps : List Str} {sp : DSp} {x : Str} (Fn : FnOk X.prog X.w X.K X.mg X.base CX k f fd ps (spD X.K sp)) (hr : Room k X.A) (hg : Gl X x) (hm : X.mg x = some (.ref f)) (hk : PySem.W.keepIn X.K (.ref f) = true) (hb : Binds X.K fd ps [])
    (hx : ∀ σ, PassesAt CX X σ (L.W σ)) (ha : DPA X L (e :: es) mA) (hdb : (x == ("__debug__" : Str)) = false) (he : starEach (e :: es) X.env = (false, eval e X.env) :: starEach es X.env) (hpl : (backTo pos (starEach es X.env)).any (·.1) = false) :
    DPE X L (.Call (.Name x p) (e :: es) [] pos) (dCall sp mA) := by
  refine ⟨mo_call ha.mo, pe_imp (pe_callSD Fn hr hg hm hk hb .nil hx ha.run hdb he hpl) fun σ H Q ⟨G, O, ρ, g, rs, q⟩ => ?_⟩
  refine upA_of ha.mo g rs q fun xs vs O1 G1 H1 q1 s1 r1 => ?_
  exact ⟨G1, O1, xs, s1.good.none, by rw [List.append_nil]; exact r1, spM_mo (fun d _ z => (z.step s1).lift s1.good) (fun x _ z => (z.step s1).lift s1.good) q1⟩
/-- f(box, ..) -/
abbrev dCallX (bx : Addr) (sp : DSp) (mA : DA) : DE := fun ρ O Q E => mA ρ O (fun ds O1 => match ds with
  | .opq (.ref b) :: r => b = bx ∧ spM sp r O1 Q E
  | _ => False) E
theorem mo_callX {sp : DSp} {bx : Addr} (h : Mo mA) : Mo (dCallX bx sp mA) := fun ρ O Q Q' E E' q hx x => h ρ _ _ _ _ _ (fun ds O1 z => by
  split at z
  · exact ⟨z.1, spM_mo q hx z.2⟩
  · exact z) hx x
theorem d_callX {CX : CXT} {k : Nat} {f bx lx : Addr} {T : List (Addr × Str)} {fd : FuncData} {ps : List Str} {sp : DSp} {x : Str} (Fn : FnOk X.prog X.w X.K X.mg X.base CX k f fd ps (spB X.K sp)) (hB : L.B.bx = some (bx, lx, T)) (hr : Room k X.A) (hg : Gl X x) (hm : X.mg x = some (.ref f)) (hk : PySem.W.keepIn X.K (.ref f) = true) (hb : Binds X.K fd ps [])
    (hx : ∀ σ, PassesAt CX X σ (L.W σ)) (ha : DPA X L (e :: es) mA) (hdb : (x == ("__debug__" : Str)) = false) (he : starEach (e :: es) X.env = (false, eval e X.env) :: starEach es X.env) (hpl : (backTo pos (starEach es X.env)).any (·.1) = false) :
    DPE X L (.Call (.Name x p) (e :: es) [] pos) (dCallX bx sp mA) := by
  refine ⟨mo_callX ha.mo, pe_imp (pe_callSD Fn hr hg hm hk hb .nil hx ha.run hdb he hpl) fun σ H Q ⟨G, O, ρ, g, rs, q⟩ => ?_⟩
  refine upA_of ha.mo g rs q fun xs vs O1 G1 H1 q1 s1 r1 => ?_
  rw [List.append_nil]
  split at q1
  · rename_i b r
    obtain ⟨rfl, q1⟩ := q1
    cases r1 with
    | cons r2 r3 =>
      cases r2
      exact ⟨b, lx, T, _, G1, O1, r, rfl, s1.good.box0 hB, r3, spM_mo (fun d _ z v G' H' t rv => z v G' H' (s1.trans (t.lift0 s1.good hB)) rv) (fun x _ z d fs G' H' t a rf => z d fs G' H' (s1.trans (t.lift0 s1.good hB)) a rf) q1⟩
  · exact q1.elim
def ixP : D → D → (D → Prop) → Prop
  | .lst xs, .int i, Q => match atI xs i with
    | some d => Q d
    | none => False
  | .tup xs, .int i, Q => match atI xs i with
    | some d => Q d
    | none => False
  | .str z, .int i, Q => z.length ≤ sizeLine ∧ match atI z.cps.toList i with
    | some c => Q (.str ⟨#[c]⟩)
    | none => False
  | _, _, _ => False
abbrev ixD : D2 := fun O x y Q => ixP (lk O x) y Q
theorem ixP_mo {x y : D} {Q Q' : D → Prop} (h : ∀ d, Q d → Q' d) (z : ixP x y Q) : ixP x y Q' := by
  unfold ixP at z ⊢
  split at z
  · split at z
    · exact h _ z
    · exact z
  · split at z
    · exact h _ z
    · exact z
  · refine ⟨z.1, ?_⟩
    obtain ⟨_, z⟩ := z
    split at z
    · exact h _ z
    · exact z
  · exact z
theorem ixD_mo : MoO ixD := fun O x y Q Q' h z => ixP_mo h z
theorem RpL.atI {vs : List V} {ds : List D} {i : Int} {d : D} (r : RpL K G vs ds) (h : L2.atI ds i = some d) : ∃ v, L2.atI vs i = some v ∧ Rp K G v d := by
  unfold L2.atI at h ⊢
  rw [r.length]
  cases e : ixN ds.length i with
  | none => rw [e] at h; cases h
  | some j => rw [e] at h; exact r.get h
theorem d_ix (ha : DPE X L a ma) (hb : DPE X L b mb) (hs : PlainIx b) : DPE X L (.Subscript a b pos) (dOp ixD ma mb) := by
  refine ⟨mo_op ixD_mo ha.mo hb.mo, pe_imp (pe_ix ix_seq ha.run hb.run hs) fun σ H Q q => run_op (fun O G H x y a b Q g r1 r2 h => ?_) ixD_mo ha.mo hb.mo q⟩
  have r1 := lk_rp g r1
  unfold ixD ixP at h
  split at h
  · rename_i e0
    rw [e0] at r1
    split at h
    · rename_i d e
      obtain ⟨p, vs, rfl, s, rl⟩ := r1.lst g.sub
      cases r2
      obtain ⟨v, e1, r3⟩ := rl.atI e
      exact .inl ⟨_, _, _, v, rfl, rfl, .inl (.inl s), e1, h _ _ _ (Step.refl g) r3⟩
    · exact h.elim
  · rename_i e0
    rw [e0] at r1
    split at h
    · rename_i d e
      obtain ⟨p, vs, rfl, s, rl⟩ := r1.tup g.sub
      cases r2
      obtain ⟨v, e1, r3⟩ := rl.atI e
      exact .inr (.inl ⟨_, _, _, v, rfl, rfl, s, e1, h _ _ _ (Step.refl g) r3⟩)
    · exact h.elim
  · rename_i e0
    rw [e0] at r1
    obtain ⟨hz, h⟩ := h
    split at h
    · rename_i d e
      cases r1.str
      cases r2
      exact .inr (.inr ⟨_, _, _, rfl, rfl, hz, e, h _ _ _ (Step.refl g) (.str _)⟩)
    · exact h.elim
  · exact h.elim
abbrev DO := Slots → Ow → (Option Int → Ow → Prop) → QX → Prop
def ko (K : PySem.W.Frag) (B : Bo) (O : Ow) (G H : Hp) (Q : Option Int → Hp → Prop) : Option Int → Ow → Prop := fun b O' => ∀ G' H', Step K B O G H O' G' H' → Q b H'
def upO (K : PySem.W.Frag) (B : Bo) (W : L2.St → XK) (m : DO) : TO := fun σ H Q => ∃ G O ρ, Good K B O G H ∧ RpS K G σ ρ ∧ m ρ O (ko K B O G H Q) (kx K B O G H (W σ))
structure DPO (X : Cx) (L : Pl) (e : Option Expr) (m : DO) : Prop where
  mo : Mo m
  run : PO X e (upO X.K L.B L.W m)
theorem po_imp {e : Option Expr} {t t' : TO} (h : PO X e t) (i : ∀ σ H Q, t' σ H Q → t σ H Q) : PO X e t' := ⟨fun pins s σ H Q I q => h.run pins s σ H Q I (i _ _ _ q)⟩
abbrev dNoPart : DO := fun _ O Q _ => Q none O
abbrev dPart (m : DE) : DO := fun ρ O Q E => m ρ O (fun d O1 => match d with | .int i => Q (some i) O1 | _ => False) E
theorem d_nopart : DPO X L none dNoPart := ⟨fun _ _ _ _ _ _ q _ x => q _ _ x, po_imp po_none fun σ H Q ⟨G, O, ρ, g, rs, q⟩ => q _ _ (Step.refl g)⟩
theorem mo_part (h : Mo m) : Mo (dPart m) := fun ρ O Q Q' E E' q hx x => h ρ _ _ _ _ _ (fun d _ z => by cases d <;> first | exact q _ _ z | exact z) hx x
theorem d_part (h : DPE X L e m) : DPO X L (some e) (dPart m) := by
  refine ⟨mo_part h.mo, po_imp (po_some h.run) fun σ H Q ⟨G, O, ρ, g, rs, q⟩ => ?_⟩
  refine up_of h.mo g rs q fun x v O1 G1 H1 q1 s1 r1 => ?_
  cases r1 <;> first
    | exact ⟨_, rfl, q1 _ _ s1⟩
    | exact q1.elim
def cutD (xs : List D) (lo hi : Option Int) : List D := (xs.drop (HT.sIx xs.length 0 lo)).take (HT.sIx xs.length xs.length hi - HT.sIx xs.length 0 lo)
theorem RpL.cut {vs : List V} {ds : List D} (r : RpL K G vs ds) (lo hi : Option Int) : RpL K G (cutV vs lo hi) (cutD ds lo hi) := by
  unfold cutV cutD
  rw [r.length]
  exact (r.drop _).take _
def slD : D → Option Int → Option Int → (D → Prop) → Prop
  | .lst xs, lo, hi, Q => Q (.lst (cutD xs lo hi))
  | .tup xs, lo, hi, Q => ¬ (HT.sIx xs.length 0 lo = 0 ∧ HT.sIx xs.length xs.length hi = xs.length) ∧ Q (.tup (cutD xs lo hi))
  | .str z, lo, hi, Q => z.length ≤ sizeLine ∧ Q (.str (cutS z lo hi))
  | _, _, _, _ => False
theorem slD_mo : ∀ {x lo hi Q Q'}, (∀ d, Q d → Q' d) → slD x lo hi Q → slD x lo hi Q'
  | .lst _, _, _, _, _, h, z => h _ z
  | .tup _, _, _, _, _, h, z => ⟨z.1, h _ z.2⟩
  | .str _, _, _, _, _, h, z => ⟨z.1, h _ z.2⟩
abbrev dSl (m : DE) (ml mh : DO) : DE := fun ρ O Q E => m ρ O (fun x O1 => ml ρ O1 (fun lo O2 => mh ρ O2 (fun hi O3 => slD (lk O3 x) lo hi fun d => Q d O3) E) E) E
theorem mo_sl {ml mh : DO} (h : Mo m) (hl : Mo ml) (hh : Mo mh) : Mo (dSl m ml mh) := fun ρ O Q Q' E E' q hx x => h ρ _ _ _ _ _ (fun _ _ z => hl ρ _ _ _ _ _ (fun _ _ y => hh ρ _ _ _ _ _ (fun _ _ w => slD_mo (fun _ => q _ _) w) hx y) hx z) hx x
theorem upO_of {R : Option Int → Hp → Prop} {P : Option Int → Ow → Prop} {mo : DO} (hm : Mo mo) (g : Good K B O G H) (r : RpS K G σ ρ) (h : mo ρ O P (kx K B O G H (W σ)))
    (k : ∀ b O' G' H', P b O' → Step K B O G H O' G' H' → R b H') : upO K B W mo σ H R :=
  ⟨G, O, ρ, g, r, hm ρ _ _ _ _ _ (fun d O' p G' H' s => k d O' G' H' p s) (fun _ _ x => x) h⟩
theorem d_sl {lo hi : Option Expr} {ml mh : DO} {p2 : Pos} (h : DPE X L e m) (hl : DPO X L lo ml) (hh : DPO X L hi mh) : DPE X L (.Subscript e (.Slice lo hi none p2) pos) (dSl m ml mh) := by
  refine ⟨mo_sl h.mo hl.mo hh.mo, pe_imp (pe_slice (sl_list.or (sl_tup.or sl_str)) h.run hl.run hh.run) fun σ H Q ⟨G, O, ρ, g, rs, q⟩ => ?_⟩
  refine up_of h.mo g rs q fun x v O1 G1 H1 q1 s1 r1 => ?_
  refine upO_of hl.mo s1.good (rs.step s1) (mo_step hl.mo s1 q1) fun l O2 G2 H2 q2 s2 => ?_
  have s12 := s1.trans s2
  refine upO_of hh.mo s2.good (rs.step s12) (mo_step hh.mo s12 q2) fun u O3 G3 H3 q3 s3 => ?_
  have s13 := s12.trans s3
  have r3 := lk_rp s3.good (r1.mono (s2.trans s3).grow)
  generalize lk O3 x = y at q3 r3
  cases y with
  | lst xs =>
    obtain ⟨p, vs, rfl, e, rl⟩ := r3.lst s3.good.sub
    refine .inl ⟨_, _, rfl, .inl (.inl e), fun p np => ?_⟩
    exact q3 _ _ _ (s13.trans (Step.new s3.good np)) (new_lst s3.good np (rl.cut _ _))
  | tup xs =>
    obtain ⟨p, vs, rfl, e, rl⟩ := r3.tup s3.good.sub
    refine .inr (.inl ⟨_, _, rfl, e, by rw [rl.length]; exact q3.1, fun p np => ?_⟩)
    exact q3.2 _ _ _ (s13.trans (Step.new s3.good np)) (new_tup s3.good np (rl.cut _ _))
  | str z => cases r3.str; exact .inr (.inr ⟨_, rfl, q3.1, q3.2 _ _ _ s13 (.str _)⟩)
  | _ => exact q3.elim
end
end EV
set_option Elab.async false
set_option linter.all false
set_option maxRecDepth 100000
set_option maxHeartbeats 4000000
namespace EV
open PySem PySem.Spec PyProof.Rows L2
abbrev IL := (Ow → Prop) × List D
abbrev DI := Slots → Ow → (IL → Ow → Prop) → QX → Prop
/-- J gives the data ds, one by one, while what was visible at G0 is so and the handles are as I says -/
def ItD (K : PySem.W.Frag) (B : Bo) (G0 : Hp) (J : It) (x : IL) : Prop := ∀ (i : Nat) (O : Ow) (G H : Hp), Good K B O G H → Sub G0 G → x.1 O →
  (∀ d, x.2[i]? = some d → J.go i H ∧ ∀ v H', J.yld i H v H' → ∃ G', Step K B O G H O G' H' ∧ Rp K G' v d) ∧ (i = x.2.length → J.stop i H)
def ki (K : PySem.W.Frag) (B : Bo) (O : Ow) (G H : Hp) (R : It → Hp → Prop) : IL → Ow → Prop := fun x O' => ∀ J G' H', Step K B O G H O' G' H' → ItD K B G' J x → R J H'
def upI (K : PySem.W.Frag) (B : Bo) (W : L2.St → XK) (m : DI) : TI := fun σ H R => ∃ G O ρ, Good K B O G H ∧ RpS K G σ ρ ∧ m ρ O (ki K B O G H R) (kx K B O G H (W σ))
structure DPI (X : Cx) (L : Pl) (tg e : Expr) (m : DI) : Prop where
  mo : Mo m
  run : PI X tg e (upI X.K L.B L.W m)
section
variable {X : Cx} {L : Pl} {e a b c tg : Expr} {es rest : List Expr} {m ma mb mc : DE} {mt mu : DT} {mA : DA} {pos p : Pos}
variable {K : PySem.W.Frag} {B : Bo} {O : Ow} {W : L2.St → XK} {G H : Hp} {σ : L2.St} {ρ : Slots} {I : Ow → Prop}
theorem pi_imp {t t' : TI} (h : PI X tg e t) (i : ∀ σ H Q, t' σ H Q → t σ H Q) : PI X tg e t' := ⟨fun pins s σ H Q I q => h.run pins s σ H Q I (i _ _ _ q)⟩
/-- a list, a tuple or a text -/
def iAny (K : PySem.W.Frag) (te : TE) : TI := fun σ H R => te σ H fun x H1 => (∃ a, x = .ref a ∧ (∃ xs, SqL K H1 a xs) ∧ R (Itl K a) H1) ∨ (∃ a, x = .ref a ∧ (∃ xs, SqT K H1 a xs) ∧ R (Itt K a) H1) ∨ ∃ y, x = .str y ∧ R (Its y) H1
theorem pi_any {te : TE} (he : PE X e te) : PI X tg e (iAny X.K te) := by
  refine ⟨fun pins s σ H R I h => ?_⟩
  refine thn (he.run pins s σ H _ I h) fun v s1 ⟨x, H1, I1, r1, q1⟩ => ?_
  rcases q1 with ⟨a, ex, ⟨xs, hq⟩, q⟩ | ⟨a, ex, ⟨xs, hq⟩, q⟩ | ⟨y, ex, q⟩
  · subst ex
    cases r1
    obtain ⟨its, rv, p, hz⟩ := I1.list hq
    refine wpAny_pyIter_list p.isList ?_
    refine ⟨s1.heap.objs.size, [s1.heap.objs.size], _, _, H1, rfl, I1.kept (t' := s1.toks) fun b o e => Heap.get?_push_of_some _ e, turn_list a _, ⟨_, Heap.get?_push_size _ rfl, rfl, rfl⟩, fun b hb => ?_, q⟩
    have e : b = s1.heap.objs.size := by simpa using hb
    subst e
    exact I1.fpOk (Nat.le_refl _) (I1.hok.fresh (Nat.le_refl _))
  · subst ex
    cases r1
    obtain ⟨its, rv, p, hz⟩ := I1.tuple hq
    refine wpAny_pyIter_tuple (show s1.heap.IsTuple a its.toArray from p) ?_
    refine ⟨s1.heap.objs.size, [s1.heap.objs.size], _, _, H1, rfl, I1.kept (t' := s1.toks) fun b o e => Heap.get?_push_of_some _ e, turn_tuple a _, ⟨_, Heap.get?_push_size _ rfl, rfl, rfl⟩, fun b hb => ?_, q⟩
    have e : b = s1.heap.objs.size := by simpa using hb
    subst e
    exact I1.fpOk (Nat.le_refl _) (I1.hok.fresh (Nat.le_refl _))
  · subst ex
    obtain ⟨t, rfl⟩ := r1
    cases ha : y.cps.all (· < 128)
    · exact wpAny_pyIter_wide ha (pi_one (tk := s1.toks) I1 _ (turn_str _ y t "str_iterator" (.inr rfl)) ⟨_, Heap.get?_push_size _ rfl, rfl, rfl⟩ q)
    · exact wpAny_pyIter_ascii ha (pi_one (tk := s1.toks) I1 _ (turn_str _ y t "str_ascii_iterator" (.inl rfl)) ⟨_, Heap.get?_push_size _ rfl, rfl, rfl⟩ q)
def charsD (y : Str) : List D := y.cps.toList.map fun c => .str ⟨#[c]⟩
abbrev tt1 : Ow → Prop := fun _ => True
/-- the items of a datum that is walked -/
abbrev itemsD (O : Ow) : D → (IL → Prop) → Prop
  | .lst xs, Q => Q (tt1, xs)
  | .tup xs, Q => Q (tt1, xs)
  | .str y, Q => Q (tt1, charsD y)
  | .opq (.ref p), Q => ∃ xs, O p = some (.lst xs) ∧ Q (fun O => O p = some (.lst xs), xs)
  | _, _ => False
theorem itemsD_mo {x : D} {Q Q' : IL → Prop} (h : ∀ d, Q d → Q' d) (z : itemsD O x Q) : itemsD O x Q' := by
  unfold itemsD at z ⊢
  split at z
  · exact h _ z
  · exact h _ z
  · exact h _ z
  · obtain ⟨xs, e, z⟩ := z; exact ⟨xs, e, h _ z⟩
  · exact z
abbrev dIter (m : DE) : DI := fun ρ O Q E => m ρ O (fun x O1 => itemsD O1 x fun l => Q l O1) E
theorem mo_iter (h : Mo m) : Mo (dIter m) := fun ρ O Q Q' E E' q hx x => h ρ _ _ _ _ _ (fun _ _ z => itemsD_mo (fun _ => q _ _) z) hx x
theorem getElem?_lt {α : Type} {l : List α} {i : Nat} {x : α} (h : l[i]? = some x) : i < l.length := by
  rcases Nat.lt_or_ge i l.length with q | q
  · exact q
  · rw [List.getElem?_eq_none q] at h; cases h
theorem itd_tup {a : Addr} {vs : List V} {ds : List D} {G0 : Hp} (s : SqT K G0 a vs) (r : RpL K G0 vs ds) : ItD K B G0 (Itt K a) (I, ds) := fun i O G H g sb _ => by
  refine ⟨fun d e => ?_, fun h => ⟨vs, g.sub.sqT (sb.sqT s), by rw [r.length]; exact Nat.le_of_eq h.symm⟩⟩
  obtain ⟨v, ev, rv⟩ := r.get e
  refine ⟨⟨vs, v, g.sub.sqT (sb.sqT s), ev⟩, fun x H' y => ?_⟩
  obtain ⟨rfl, y⟩ := y
  have := y vs (g.sub.sqT (sb.sqT s))
  rw [ev] at this
  cases this
  exact ⟨G, Step.refl g, rv.mono sb⟩
theorem itd_lst {a : Addr} {ds : List D} {G0 : Hp} (s : ∀ O G H, Good K B O G H → Sub G0 G → I O → ∃ vs, H a = some (.lst vs) ∧ RpL K G vs ds) : ItD K B G0 (Itl K a) (I, ds) := fun i O G H g sb hI => by
  obtain ⟨vs, e0, r⟩ := s O G H g sb hI
  have sq : SqL K H a vs := .inl (.inl e0)
  refine ⟨fun d e => ?_, fun h => ⟨vs, sq, by rw [r.length]; exact Nat.le_of_eq h.symm⟩⟩
  obtain ⟨v, ev, rv⟩ := r.get e
  refine ⟨⟨vs, v, sq, ev⟩, fun x H' y => ?_⟩
  obtain ⟨rfl, y⟩ := y
  have := y vs sq
  rw [ev] at this
  cases this
  exact ⟨G, Step.refl g, rv⟩
theorem itd_str {y : Str} {G0 : Hp} : ItD K B G0 (Its y) (I, charsD y) := fun i O G H g sb _ => by
  have hl : (charsD y).length = y.cps.size := by simp [charsD]
  refine ⟨fun d e => ?_, fun (h : i = (charsD y).length) => by rw [hl] at h; exact Nat.le_of_eq h.symm⟩
  have hi : i < y.cps.size := by rw [← hl]; exact getElem?_lt e
  refine ⟨hi, fun x H' q => ?_⟩
  obtain ⟨rfl, c, ec, rfl⟩ := q
  have e2 : (charsD y)[i]? = some (.str ⟨#[c]⟩) := by
    simp only [charsD, List.getElem?_map, Array.getElem?_toList, ec, Option.map_some]
  have e : (charsD y)[i]? = some d := e
  rw [e2] at e
  cases e
  exact ⟨G, Step.refl g, .str _⟩
theorem d_iter (h : DPE X L e m) : DPI X L tg e (dIter m) := by
  refine ⟨mo_iter h.mo, pi_imp (pi_any h.run) fun σ H Q ⟨G, O, ρ, g, rs, q⟩ => ?_⟩
  refine up_of h.mo g rs q fun x v O1 G1 H1 q1 s1 r1 => ?_
  cases r1 with
  | lst sq rl => exact .inl ⟨_, rfl, ⟨_, s1.good.sub.lstL sq⟩, q1 _ _ _ s1 (itd_lst fun O G H g sb _ => ⟨_, g.sub _ _ (sb _ _ sq), rl.mono sb⟩)⟩
  | tup sq rl => exact .inr (.inl ⟨_, rfl, ⟨_, s1.good.sub.sqT sq⟩, q1 _ _ _ s1 (itd_tup sq rl)⟩)
  | str y => exact .inr (.inr ⟨_, rfl, q1 _ _ _ s1 itd_str⟩)
  | opq v =>
    cases v with
    | ref p =>
      obtain ⟨xs, e, q1⟩ := q1
      obtain ⟨vs, ev, rv⟩ := (s1.good.own p _ e).2.2
      refine .inl ⟨_, rfl, ⟨_, .inl (.inl ev)⟩, q1 _ _ _ s1 (itd_lst fun O G H g sb hI => (g.own p _ hI).2.2)⟩
    | _ => exact q1.elim
  | non => exact q1.elim
  | bl => exact q1.elim
  | int => exact q1.elim
  | dic => exact q1.elim
  | ins => exact q1.elim
  | exc => exact q1.elim
  | lam => exact q1.elim
  | nk => exact q1.elim
/-- range -/
def rngD (lo : Int) (n : Nat) : List D := (List.range n).map fun (i : Nat) => .int (lo + (i : Int))
theorem itd_rng {lo : Int} {n : Nat} {G0 : Hp} : ItD K B G0 (Itr lo n) (I, rngD lo n) := fun i O G H g sb _ => by
  have hl : (rngD lo n).length = n := by simp [rngD]
  refine ⟨fun d e => ?_, fun (h : i = (rngD lo n).length) => by rw [hl] at h; exact Nat.le_of_eq h.symm⟩
  have hi : i < n := by rw [← hl]; exact getElem?_lt e
  refine ⟨hi, fun x H' q => ?_⟩
  obtain ⟨rfl, rfl⟩ := q
  have e2 : (rngD lo n)[i]? = some (.int (lo + i)) := by
    simp only [rngD, List.getElem?_map, List.getElem?_range hi, Option.map_some]
  have e : (rngD lo n)[i]? = some d := e
  rw [e2] at e
  cases e
  exact ⟨G, Step.refl g, .int _⟩
abbrev rng1D : List D → (IL → Prop) → Prop
  | [.int j], Q => -(2 ^ 62) ≤ j ∧ j < 2 ^ 62 ∧ Q (tt1, rngD 0 j.toNat)
  | _, _ => False
theorem rng1D_mo {x : List D} {Q Q' : IL → Prop} (h : ∀ d, Q d → Q' d) (z : rng1D x Q) : rng1D x Q' := by
  unfold rng1D at z ⊢
  split at z
  · exact ⟨z.1, z.2.1, h _ z.2.2⟩
  · exact z
abbrev dRng1 (mA : DA) : DI := fun ρ O Q E => mA ρ O (fun xs O1 => rng1D xs fun l => Q l O1) E
theorem d_rng1 (hg : Gl X "range") (hm : X.mg "range" = none) (ha : DPA X L [a] mA) (hs : starEach [a] X.env = [(false, eval a X.env)]) : DPI X L tg (.Call (.Name "range" p) [a] [] pos) (dRng1 mA) := by
  refine ⟨fun ρ O Q Q' E E' q hx x => ha.mo ρ _ _ _ _ _ (fun _ _ z => rng1D_mo (fun _ => q _ _) z) hx x, pi_imp (pi_range1 hg hm ha.run hs) fun σ H Q ⟨G, O, ρ, g, rs, q⟩ => ?_⟩
  refine upA_of ha.mo g rs q fun xs vs O1 G1 H1 q1 s1 r1 => ?_
  unfold rng1D at q1
  split at q1
  · cases r1 with
    | cons r2 r3 =>
      cases r3
      cases r2
      exact ⟨_, rfl, q1.1, q1.2.1, q1.2.2 _ _ _ s1 itd_rng⟩
  · exact q1.elim
end
abbrev DG := D → Slots → (Slots → Prop) → Prop
def MoG (g : DG) : Prop := ∀ d ρ Q Q', (∀ r, Q r → Q' r) → g d ρ Q → g d ρ Q'
/-- but for the slots is they are as they were -/
def Off (is : List Nat) (σ σ' : L2.St) : Prop := σ'.length = σ.length ∧ ∀ j : Nat, j ∉ is → σ'[j]? = σ[j]?
theorem Off.refl (is : List Nat) (σ : L2.St) : Off is σ σ := ⟨rfl, fun _ _ => rfl⟩
theorem Off.trans {is js : List Nat} {σ σ' σ'' : L2.St} (a : Off is σ σ') (b : Off js σ' σ'') : Off (is ++ js) σ σ'' :=
  ⟨b.1.trans a.1, fun j h => (b.2 j fun z => h (List.mem_append_right _ z)).trans (a.2 j fun z => h (List.mem_append_left _ z))⟩
def upG (K : PySem.W.Frag) (B : Bo) (is : List Nat) (g : DG) : TG := fun v σ H Q => ∃ G O ρ d, Good K B O G H ∧ RpS K G σ ρ ∧ Rp K G v d ∧ g d ρ (fun ρ' => ∀ σ', RpS K G σ' ρ' → Off is σ σ' → Q σ' H)
structure DPG (X : Cx) (L : Pl) (tg : Expr) (is : List Nat) (g : DG) : Prop where
  mo : MoG g
  run : PG X tg (upG X.K L.B is g)
abbrev DGs := List D → Slots → (Slots → Prop) → Prop
def upGs (K : PySem.W.Frag) (B : Bo) (is : List Nat) (g : DGs) : TGs := fun vs σ H Q => ∃ G O ρ ds, Good K B O G H ∧ RpS K G σ ρ ∧ RpL K G vs ds ∧ g ds ρ (fun ρ' => ∀ σ', RpS K G σ' ρ' → Off is σ σ' → Q σ' H)
structure DPGs (X : Cx) (L : Pl) (tg : List Expr) (is : List Nat) (g : DGs) : Prop where
  mo : ∀ d ρ Q Q', (∀ r, Q r → Q' r) → g d ρ Q → g d ρ Q'
  run : PGs X tg (upGs X.K L.B is g)
section
variable {X : Cx} {L : Pl} {e a b c tg : Expr} {es rest : List Expr} {m ma mb mc : DE} {mt mu : DT} {mA : DA} {pos p : Pos}
variable {K : PySem.W.Frag} {B : Bo} {O : Ow} {W : L2.St → XK} {G H : Hp} {σ : L2.St} {ρ : Slots} {I : Ow → Prop}
theorem pg_imp {t t' : TG} (h : PG X tg t) (i : ∀ v σ H Q, t' v σ H Q → t v σ H Q) : PG X tg t' := ⟨fun pins s σ H v u Q I r q => h.run pins s σ H v u Q I r (i _ _ _ _ q)⟩
theorem pgs_imp {t t' : TGs} (h : PGs X es t) (i : ∀ v σ H Q, t' v σ H Q → t v σ H Q) : PGs X es t' := ⟨fun pins s σ H v u Q I r q => h.run pins s σ H v u Q I r (i _ _ _ _ q)⟩
def dgName (i : Nat) : DG := fun d ρ Q => Q (ρ.set i (.sh d))
/-- a slot set to a visible thing -/
theorem RpS.set {i : Nat} {v : V} {d : D} (r : RpS K G σ ρ) (h : Rp K G v d) : RpS K G (σ.set i (some v)) (ρ.set i (.sh d)) := by
  refine ⟨by rw [List.length_set, List.length_set]; exact r.len, fun j x e => ?_⟩
  by_cases ij : i = j
  · subst ij
    have hl := getElem?_lt e
    rw [List.length_set] at hl
    rw [List.getElem?_set_self hl] at e
    cases e
    exact ⟨v, List.getElem?_set_self (by rw [r.len]; exact hl), h⟩
  · rw [List.getElem?_set_ne ij] at e ⊢
    exact r.sh j x e
theorem dg_name {i : Nat} {x : Str} (hN : X.N.Nodup) (hi : X.N[i]? = some x) (hx : Loc X.env.scope x) (hf : X.fn x = true ∨ X.env.scope.names.lookup x = some .local) : DPG X L (.Name x pos) [i] (dgName i) :=
  ⟨fun d ρ Q Q' h z => h _ z, pg_imp (pg_name hN hi hx hf) fun v σ H Q ⟨G, O, ρ, d, g, rs, r, q⟩ => q _ (rs.set r) ⟨List.length_set .., fun j h => List.getElem?_set_ne (fun z => h (by simp [z]))⟩⟩
abbrev dgNil : DGs := fun ds ρ Q => match ds with
  | [] => Q ρ
  | _ => False
abbrev dgCons (g : DG) (gs : DGs) : DGs := fun ds ρ Q => match ds with
  | d :: r => g d ρ fun ρ' => gs r ρ' Q
  | [] => False
theorem dgs_nil : DPGs X L [] [] dgNil := by
  refine ⟨fun d ρ Q Q' h z => by cases d <;> first | exact h _ z | exact z, pgs_imp pgs_nil fun v σ H Q ⟨G, O, ρ, d, g, rs, r, q⟩ => ?_⟩
  cases r with
  | nil => exact ⟨rfl, q σ rs (Off.refl _ _)⟩
  | cons _ _ => exact q.elim
theorem dgs_cons {g : DG} {gs : DGs} {is js : List Nat} (hg : DPG X L e is g) (hs : DPGs X L es js gs) (h1 : (assignEach (e :: es) X.env).map (·.2) = assign e X.env :: (assignEach es X.env).map (·.2)) : DPGs X L (e :: es) (is ++ js) (dgCons g gs) := by
  refine ⟨fun d ρ Q Q' h z => ?_, pgs_imp (pgs_cons hg.run hs.run h1) fun v σ H Q ⟨G, O, ρ, d, gd, rs, r, q⟩ => ?_⟩
  · cases d with
    | nil => exact z
    | cons x xs => exact hg.mo _ _ _ _ (fun _ y => hs.mo _ _ _ _ h y) z
  · cases r with
    | nil => exact q.elim
    | cons r1 r2 =>
      refine ⟨_, _, rfl, G, O, ρ, _, gd, rs, r1, hg.mo _ _ _ _ (fun ρ' z σ' rs' o1 => ?_) q⟩
      exact ⟨G, O, ρ', _, gd, rs', r2, hs.mo _ _ _ _ (fun ρ2 y σ2 rs2 o2 => y σ2 rs2 (o1.trans o2)) z⟩
abbrev dgTup (n : Nat) (gs : DGs) : DG := fun d ρ Q => match d with
  | .tup xs => xs.length = n ∧ gs xs ρ Q
  | _ => False
theorem dg_tup {k n : Nat} {gs : DGs} {is : List Nat} (hc : X.calm = true) (h : DPGs X L es is gs) (hn : (assignEach es X.env).length = n) (hst : (assignEach es X.env).findIdx? (·.1) = none) : DPG X L (.Tuple es k pos) is (dgTup n gs) := by
  refine ⟨fun d ρ Q Q' h' z => ?_, pg_imp (pg_tup hc h.run hn hst) fun v σ H Q ⟨G, O, ρ, d, gd, rs, r, q⟩ => ?_⟩
  · unfold dgTup at z ⊢
    split at z
    · exact ⟨z.1, h.mo _ _ _ _ h' z.2⟩
    · exact z
  · unfold dgTup at q
    split at q
    · cases r with
      | tup sq rl => exact ⟨_, _, rfl, gd.sub.sqT sq, by rw [rl.length]; exact q.1, G, O, ρ, _, gd, rs, rl, q.2⟩
    · exact q.elim
def wipeD (ρ : Slots) : List Nat → Slots
  | [] => ρ
  | v :: vs => (wipeD ρ vs).set v .un
theorem RpS.wipe (r : RpS K G σ ρ) : ∀ vs : List Nat, RpS K G (L2.wipe σ vs) (wipeD ρ vs)
  | [] => r
  | v :: vs => by
    have q := RpS.wipe r vs
    unfold L2.wipe wipeD
    refine ⟨by rw [List.length_set, List.length_set]; exact q.len, fun j x e => ?_⟩
    by_cases ij : v = j
    · subst ij
      have hl := getElem?_lt e
      rw [List.length_set] at hl
      rw [List.getElem?_set_self hl] at e
      cases e
    · rw [List.getElem?_set_ne ij] at e ⊢
      exact q.sh j x e
/-- the turns of a comprehension; acc: what is gathered -/
def lcW (I : Ow → Prop) (g : DG) (tt : DT) (te : DE) (ρ : Slots) : List D → List D → Ow → (List D → Ow → Prop) → Prop
  | [], acc, O, Q => I O ∧ Q acc O
  | d :: ds, acc, O, Q => I O ∧ g d ρ fun ρ' => tt ρ' O (fun c O1 => bc c (te ρ' O1 (fun y O2 => acc.length < sizeLine ∧ lcW I g tt te ρ ds (acc ++ [y]) O2 Q) (fun _ _ => False)) (lcW I g tt te ρ ds acc O1 Q)) (fun _ _ => False)
theorem lcW_mo {g : DG} {tt : DT} {te : DE} (hg : MoG g) (ht : Mo tt) (he : Mo te) {ρ : Slots} {Q Q' : List D → Ow → Prop} (h : ∀ d O, Q d O → Q' d O) : ∀ {ds acc : List D} {O : Ow}, lcW I g tt te ρ ds acc O Q → lcW I g tt te ρ ds acc O Q'
  | [], _, _, z => ⟨z.1, h _ _ z.2⟩
  | d :: ds, acc, _, z => ⟨z.1, hg _ _ _ _ (fun ρ' z1 => ht _ _ _ _ _ _ (fun c _ z2 => by
      cases c with
      | true => exact (he _ _ _ _ _ _ (fun y _ z3 => ⟨z3.1, lcW_mo hg ht he h z3.2⟩) (fun _ _ x => x) z2)
      | false => exact (lcW_mo hg ht he h z2)) (fun _ _ x => x) z1) z.2⟩
abbrev dLc (mi : DI) (g : DG) (tt : DT) (te : DE) (vs : List Nat) : DE := fun ρ O Q E => mi ρ O (fun x O1 => lcW x.1 g tt te (wipeD ρ vs) x.2 [] O1 fun l O2 => Q (.lst l) O2) E
/-- the list stays one's own -/
abbrev dLcO (mi : DI) (g : DG) (tt : DT) (te : DE) (vs : List Nat) : DE := fun ρ O Q E => mi ρ O (fun x O1 => lcW x.1 g tt te (wipeD ρ vs) x.2 [] O1 fun l O2 => ∀ p, O2 p = none → Q (.opq (.ref p)) (oset O2 p (.lst l))) E
theorem mo_lc {mi : DI} {g : DG} {tt : DT} {te : DE} {vs : List Nat} (hi : Mo mi) (hg : MoG g) (ht : Mo tt) (he : Mo te) : Mo (dLc mi g tt te vs) := fun ρ O Q Q' E E' q hx x =>
  hi ρ _ _ _ _ _ (fun _ _ z => lcW_mo hg ht he (fun _ => q _) z) hx x
theorem mo_lcO {mi : DI} {g : DG} {tt : DT} {te : DE} {vs : List Nat} (hi : Mo mi) (hg : MoG g) (ht : Mo tt) (he : Mo te) : Mo (dLcO mi g tt te vs) := fun ρ O Q Q' E E' q hx x =>
  hi ρ _ _ _ _ _ (fun _ _ z => lcW_mo hg ht he (fun _ _ w p n => q _ _ (w p n)) z) hx x
structure DPTs (X : Cx) (L : Pl) (ifs : List Expr) (m : DT) : Prop where
  mo : Mo m
  run : PTs X ifs (upT X.K L.B L.W m)
abbrev dYes : DT := fun _ O Q _ => Q true O
theorem pts_imp {ifs : List Expr} {t t' : TT} (h : PTs X ifs t) (i : ∀ σ H Q, t' σ H Q → t σ H Q) : PTs X ifs t' := ⟨fun pins s σ H Q I q => h.run pins s σ H Q I (i _ _ _ q)⟩
theorem d_ifs0 : DPTs X L [] dYes := ⟨fun _ _ _ _ _ _ q _ x => q _ _ x, pts_imp pts_nil fun σ H Q ⟨G, O, ρ, g, rs, q⟩ => q _ _ (Step.refl g)⟩
theorem d_ifs1 (h : DPT X L c mt) : DPTs X L [c] mt := ⟨h.mo, pts_one h.run⟩
/-- the place within a comprehension: nothing is raised out of it -/
abbrev Pl.blk (L : Pl) : Pl := { L with W := fun _ _ _ _ => False }
theorem wipe_get {σ : L2.St} {j : Nat} : ∀ {vs : List Nat}, (L2.wipe σ vs)[j]? = if j ∈ vs ∧ j < σ.length then some none else σ[j]?
  | [] => by simp [L2.wipe]
  | v :: vs => by
    unfold L2.wipe
    by_cases hj : v = j
    · subst hj
      by_cases hl : v < σ.length
      · rw [List.getElem?_set_self (by rw [wipe_length]; exact hl), if_pos ⟨List.mem_cons_self, hl⟩]
      · rw [List.getElem?_eq_none (by rw [List.length_set, wipe_length]; omega), if_neg (fun z => hl z.2), List.getElem?_eq_none (by omega)]
    · rw [List.getElem?_set_ne hj, wipe_get (vs := vs)]
      by_cases hm : j ∈ vs ∧ j < σ.length
      · rw [if_pos hm, if_pos ⟨List.mem_cons_of_mem _ hm.1, hm.2⟩]
      · rw [if_neg hm, if_neg (fun z => hm ⟨by
          rcases List.mem_cons.mp z.1 with q | q
          · exact absurd q.symm hj
          · exact q, z.2⟩)]
theorem wipe_off {σ σ2 : L2.St} {is vs : List Nat} (o : Off is (L2.wipe σ vs) σ2) (h : ∀ i ∈ is, i ∈ vs) : L2.wipe σ2 vs = L2.wipe σ vs := by
  have hl : σ2.length = σ.length := by rw [o.1, wipe_length]
  refine List.ext_getElem? fun j => ?_
  rw [wipe_get, wipe_get]
  by_cases hm : j ∈ vs ∧ j < σ.length
  · rw [if_pos hm, if_pos (by rw [hl]; exact hm)]
  · rw [if_neg hm, if_neg (by rw [hl]; exact hm)]
    by_cases hv : j ∈ vs
    · have : σ.length ≤ j := by
        rcases Nat.lt_or_ge j σ.length with q | q
        · exact absurd ⟨hv, q⟩ hm
        · exact q
      rw [List.getElem?_eq_none (by omega), List.getElem?_eq_none (by omega)]
    · rw [o.2 j (fun z => hv (h j z)), wipe_get, if_neg hm]
/-- the gathering of a comprehension, by HandS's reading of it -/
theorem lc_run {σ0 : L2.St} {ρ0 : Slots} {g : DG} {tt : DT} {te : DE} {vs is : List Nat} {J : It} {O0 : Ow} {G0 H0 : Hp} {ds : List D} {Q : VK} {P : List D → Ow → Prop} {Dd : Addr} (hg : MoG g) (ht : Mo tt) (he : Mo te)
    (s0 : Step K B O G H O0 G0 H0) (rs : RpS K G σ0 ρ0) (it : ItD K B G0 J (I, ds)) (h : lcW I g tt te (wipeD ρ0 vs) ds [] O0 P) (nD : H0 Dd = none) (hv : ∀ i ∈ is, i ∈ vs)
    (hP : ∀ acc vacc O1 G1 H1, P acc O1 → Step K B O G H O1 G1 H1 → O1 Dd = none → G1 Dd = none → H Dd = none → H1 Dd = some (.lst vacc) → ¬ Hid B Dd → RpL K G1 vacc acc → Q (.ref Dd) H1) :
    ∃ W : Nat → Nat → Hp → Prop, (∃ m, W 0 m (upd H0 Dd (.lst []))) ∧ ∀ i m H, W i m H →
      (J.stop i H ∧ Q (.ref Dd) H) ∨ (J.go i H ∧ ∃ Nx : Hp → Prop, (∀ H', Nx H' → ∃ m', m' < m ∧ W (i + 1) m' H') ∧ ∀ x H', J.yld i H x H' → upG K B is g x (L2.wipe σ0 vs) H' fun σ2 H2 => L2.wipe σ2 vs = L2.wipe σ0 vs ∧ upT K B (fun _ _ _ _ => False) tt σ2 H2 fun b H3 =>
        if b = true then up K B (fun _ _ _ _ => False) te σ2 H3 fun y H4 => ∃ acc, H4 Dd = some (.lst acc) ∧ acc.length < sizeLine ∧ Nx (upd H4 Dd (.lst (acc ++ [y]))) else Nx H3) := by
  have nb : ¬ Hid B Dd := s0.good.nhid nD
  have nG : G0 Dd = none := s0.good.freshG nD
  have nO : O0 Dd = none := s0.good.fresh nD
  have upk : ∀ {O1 : Ow} {G1 H1 : Hp} (l : List V), Good K B O1 G1 H1 → G1 Dd = none → O1 Dd = none → (∀ φ, H1 Dd ≠ some (.ext φ)) → Good K B O1 G1 (upd H1 Dd (.lst l)) := fun {O1 G1 H1} l gd n1 n2 n3 => by
    refine ⟨fun a o e => ?_, fun b l T e => ?_, gd.amb, fun p d e => ?_⟩
    · rw [upd_ne (fun z => by rw [z, n1] at e; cases e)]; exact gd.sub a o e
    · refine (gd.box b l T e).step (Sub.refl _) (fun a ha => gd.hidG ⟨b, l, T, e, ha⟩) fun a o ha h => ?_
      rw [upd_ne (fun z => nb (by rw [← z]; exact ⟨b, l, T, e, ha⟩))]
      exact h
    · obtain ⟨a, b, c⟩ := gd.own p d e
      exact ⟨a, b, c.mono (Sub.refl _) fun o h => by rw [upd_ne (fun z => by rw [z, n2] at e; cases e)]; exact h⟩
  by_cases hHD : ∃ o, H Dd = some o
  · -- it was there at first and is no more: so it was one's own, and is dropped
    obtain ⟨o, eo⟩ := hHD
    exfalso
    cases eO : O Dd with
    | none => have := s0.keep _ _ eo nb eO; rw [nD] at this; cases this
    | some d => exact absurd nD (s0.still _ (by rw [eo]; exact Option.some_ne_none _))
  have nH : H Dd = none := by
    cases e : H Dd with
    | none => rfl
    | some o => exact absurd ⟨o, e⟩ hHD
  refine ⟨fun i m H1 => ∃ G1 O1 acc vacc, m = ds.length - i ∧ i ≤ ds.length ∧ Step K B O G H O1 G1 H1 ∧ Sub G0 G1 ∧ G1 Dd = none ∧ O1 Dd = none ∧ H1 Dd = some (.lst vacc) ∧ RpL K G1 vacc acc ∧ lcW I g tt te (wipeD ρ0 vs) (ds.drop i) acc O1 P, ⟨ds.length, G0, O0, [], [], by simp, Nat.zero_le _, ?_, Sub.refl _, nG, nO, upd_same, .nil, by simpa using h⟩, ?_⟩
  · exact ⟨s0.grow, upk [] s0.good nG nO (fun φ z => by rw [nD] at z; cases z), fun a o e n z => by rw [upd_ne (fun z => by rw [z, nH] at e; cases e)]; exact s0.keep a o e n z, s0.hid, fun a h => upd_still a (s0.still a h)⟩
  · rintro i m H1 ⟨G1, O1, acc, vacc, rfl, hi, st, sb, gD, oD, hD, ra, hl⟩
    rcases Nat.lt_or_ge i ds.length with hlt | hge
    · have ei : ds[i]? = some ds[i] := List.getElem?_eq_getElem hlt
      have ed : ds.drop i = ds[i] :: ds.drop (i + 1) := List.drop_eq_getElem_cons hlt
      rw [ed] at hl
      obtain ⟨hI, hl⟩ := hl
      obtain ⟨go, yl⟩ := (it i O1 G1 H1 st.good sb hI).1 _ ei
      refine .inr ⟨go, fun H2 => ∃ G2 O2 acc vacc, Step K B O G H O2 G2 H2 ∧ Sub G0 G2 ∧ G2 Dd = none ∧ O2 Dd = none ∧ H2 Dd = some (.lst vacc) ∧ RpL K G2 vacc acc ∧ lcW I g tt te (wipeD ρ0 vs) (ds.drop (i + 1)) acc O2 P, fun H2 ⟨G2, O2, acc2, vacc2, a, b, c, c', d, e, f⟩ => ⟨ds.length - (i + 1), by omega, G2, O2, acc2, vacc2, rfl, by omega, a, b, c, c', d, e, f⟩, fun x H2 y => ?_⟩
      obtain ⟨G2, s2, rx⟩ := yl x H2 y
      have st2 := st.trans s2
      have gD2 : G2 Dd = none := (s2.hid _ _ hD gD oD).1
      have hD2 : H2 Dd = some (.lst vacc) := s2.keep _ _ hD nb oD
      refine ⟨G2, O1, wipeD ρ0 vs, ds[i], s2.good, (rs.step st2).wipe vs, rx, hg _ _ _ _ (fun ρ' z σ2 rs2 o2 => ⟨wipe_off o2 hv, ?_⟩) hl⟩
      refine ⟨G2, O1, ρ', s2.good, rs2, ht _ _ _ _ _ _ (fun c O3 z2 G3 H3 s3 => ?_) (fun _ _ x => x.elim) z⟩
      have st3 := st2.trans s3
      have gD3 := s3.hid _ _ hD2 gD2 oD
      have hD3 : H3 Dd = some (.lst vacc) := s3.keep _ _ hD2 nb oD
      cases c with
      | false => exact iteF ⟨G3, O3, acc, vacc, st3, (sb.trans s2.grow).trans s3.grow, gD3.1, gD3.2, hD3, ra.mono (s2.trans s3).grow, z2⟩
      | true =>
        refine iteT ⟨G3, O3, ρ', s3.good, rs2.step s3, he _ _ _ _ _ _ (fun y O4 z3 vy G4 H4 s4 ry => ?_) (fun _ _ x => x.elim) z2⟩
        have st4 := st3.trans s4
        have gD4 := s4.hid _ _ hD3 gD3.1 gD3.2
        have hD4 : H4 Dd = some (.lst vacc) := s4.keep _ _ hD3 nb gD3.2
        have ra4 : RpL K G4 vacc acc := ra.mono ((s2.trans s3).trans s4).grow
        refine ⟨vacc, hD4, by rw [ra4.length]; exact z3.1, G4, O4, acc ++ [y], vacc ++ [vy], ?_, ((sb.trans s2.grow).trans s3.grow).trans s4.grow, gD4.1, gD4.2, upd_same, ra4.append (.cons ry .nil), z3.2⟩
        exact ⟨st4.grow, upk _ s4.good gD4.1 gD4.2 (fun φ z => by rw [hD4] at z; cases z), fun a o e n z => by rw [upd_ne (fun z => by rw [z, nH] at e; cases e)]; exact st4.keep a o e n z, st4.hid, fun a h => upd_still a (st4.still a h)⟩
    · rw [List.drop_eq_nil_of_le hge] at hl
      obtain ⟨hI, hl⟩ := hl
      exact .inl ⟨(it i O1 G1 H1 st.good sb hI).2 (show i = ds.length by omega), hP acc vacc O1 G1 H1 hl st oD gD nH hD nb ra⟩
theorem lc_show {Q : VK} (acc : List D) (vacc : List V) (O1 : Ow) (G1 H1 : Hp) {Dd : Addr} (h : kv K B O G H Q (.lst acc) O1) (st : Step K B O G H O1 G1 H1) (oD : O1 Dd = none) (gD : G1 Dd = none) (nH : H Dd = none) (hD : H1 Dd = some (.lst vacc)) (nb : ¬ Hid B Dd) (ra : RpL K G1 vacc acc) : Q (.ref Dd) H1 := by
  have gr : Sub G1 (upd G1 Dd (.lst vacc)) := fun a o e => by rw [upd_ne (fun z => by rw [z, gD] at e; cases e)]; exact e
  have key : Step K B O G H O1 (upd G1 Dd (.lst vacc)) H1 := by
    refine ⟨st.grow.trans gr, ⟨fun a o e => ?_, fun b l T e => ?_, st.good.amb.trans gr, fun p d e => ?_⟩, st.keep, fun a o e n z => ?_, st.still⟩
    · by_cases z : a = Dd
      · subst z; rw [upd_same] at e; cases e; exact hD
      · rw [upd_ne z] at e; exact st.good.sub a o e
    · refine (st.good.box b l T e).step gr (fun a ha => ?_) fun a o _ h => h
      have ha : Hid B a := ⟨b, l, T, e, ha⟩
      rw [upd_ne (fun z => nb (by rw [← z]; exact ha))]; exact st.good.hidG ha
    · obtain ⟨a, b, c⟩ := st.good.own p d e
      exact ⟨by rw [upd_ne (fun z => by rw [z, oD] at e; cases e)]; exact a, b, c.mono gr fun _ h => h⟩
    · have := st.hid a o e n z
      exact ⟨by rw [upd_ne (fun z => by rw [z, nH] at e; cases e)]; exact this.1, this.2⟩
  exact h (.ref Dd) _ H1 key (.lst upd_same (ra.mono gr))
theorem lc_own {Q : VK} (acc : List D) (vacc : List V) (O1 : Ow) (G1 H1 : Hp) {Dd : Addr} (h : ∀ p, O1 p = none → kv K B O G H Q (.opq (.ref p)) (oset O1 p (.lst acc))) (st : Step K B O G H O1 G1 H1) (oD : O1 Dd = none) (gD : G1 Dd = none) (nH : H Dd = none) (hD : H1 Dd = some (.lst vacc)) (nb : ¬ Hid B Dd) (ra : RpL K G1 vacc acc) : Q (.ref Dd) H1 := by
  have key : Step K B O G H (oset O1 Dd (.lst acc)) G1 H1 := by
    refine ⟨st.grow, ⟨st.good.sub, st.good.box, st.good.amb, fun p d e => ?_⟩, st.keep, fun a o e n z => ?_, st.still⟩
    · by_cases z : p = Dd
      · subst z; rw [oset_same] at e; cases e; exact ⟨gD, nb, vacc, hD, ra⟩
      · rw [oset_ne z] at e; exact st.good.own p d e
    · have := st.hid a o e n z
      exact ⟨this.1, by rw [oset_ne (fun z => by rw [z, nH] at e; cases e)]; exact this.2⟩
  exact h Dd oD (.ref Dd) _ H1 key (.opq _)
theorem in_of {is : List Nat} {vs : List Nat} (hv : is.all (fun i => vs.contains i) = true) (i : Nat) (hi : i ∈ is) : i ∈ vs := by
  have := List.all_eq_true.mp hv i hi
  simpa using this
theorem d_lc {elt tg iter : Expr} {ifs : List Expr} {scope : Scope} {own : List (Str × Nat)} {is : List Nat} {mi : DI} {g : DG} {tt : DT} {te : DE} (hc : X.calm = true) (hN : X.N.Nodup) (hi : DPI X L tg iter mi) (ok : BlkOk X.N X.env.scope scope own)
    (hg : ∀ (s : Shared) (H : Hp) (C : Addr) (cl : List (Str × Addr)) (fp : List Addr), DPG (X.blk s H scope (compEnvC scope cl C X.env) fp) L.blk tg is g)
    (ht : ∀ (s : Shared) (H : Hp) (C : Addr) (cl : List (Str × Addr)) (fp : List Addr), DPTs (X.blk s H scope (compEnvC scope cl C X.env) fp) L.blk ifs tt)
    (he : ∀ (s : Shared) (H : Hp) (C : Addr) (cl : List (Str × Addr)) (fp : List Addr), DPE (X.blk s H scope (compEnvC scope cl C X.env) fp) L.blk elt te)
    (hv : is.all (fun i => (own.map (·.2)).contains i) = true) (hs : ∀ x, foldedSetIterable iter X.env x = pure x) :
    DPE X L (.ListComp elt [⟨tg, iter, ifs, 0⟩] scope pos) (dLc mi g tt te (own.map (·.2))) := by
  have mg := (hg X.s_0 X.H_0 0 [] []).mo
  have mt := (ht X.s_0 X.H_0 0 [] []).mo
  have me := (he X.s_0 X.H_0 0 [] []).mo
  refine ⟨mo_lc hi.mo mg mt me, pe_imp (pe_lc (g := upG X.K L.B is g) (tt := upT X.K L.B (fun _ _ _ _ => False) tt) (te := up X.K L.B (fun _ _ _ _ => False) te) hc hN hi.run ok (fun s H C cl fp => (hg s H C cl fp).run) (fun s H C cl fp => (ht s H C cl fp).run) (fun s H C cl fp => (he s H C cl fp).run) hs) fun σ H Q ⟨G, O, ρ, gd, rs, q⟩ => ?_⟩
  refine ⟨G, O, ρ, gd, rs, hi.mo ρ _ _ _ _ _ (fun x O1 z J G1 H1 s1 it Dd nD => ?_) (fun _ _ x => x) q⟩
  exact lc_run mg mt me s1 rs it z nD (in_of hv) fun acc vacc O1 G1 H1 p st a b c d e f => lc_show acc vacc O1 G1 H1 p st a b c d e f
theorem d_lcO {elt tg iter : Expr} {ifs : List Expr} {scope : Scope} {own : List (Str × Nat)} {is : List Nat} {mi : DI} {g : DG} {tt : DT} {te : DE} (hc : X.calm = true) (hN : X.N.Nodup) (hi : DPI X L tg iter mi) (ok : BlkOk X.N X.env.scope scope own)
    (hg : ∀ (s : Shared) (H : Hp) (C : Addr) (cl : List (Str × Addr)) (fp : List Addr), DPG (X.blk s H scope (compEnvC scope cl C X.env) fp) L.blk tg is g)
    (ht : ∀ (s : Shared) (H : Hp) (C : Addr) (cl : List (Str × Addr)) (fp : List Addr), DPTs (X.blk s H scope (compEnvC scope cl C X.env) fp) L.blk ifs tt)
    (he : ∀ (s : Shared) (H : Hp) (C : Addr) (cl : List (Str × Addr)) (fp : List Addr), DPE (X.blk s H scope (compEnvC scope cl C X.env) fp) L.blk elt te)
    (hv : is.all (fun i => (own.map (·.2)).contains i) = true) (hs : ∀ x, foldedSetIterable iter X.env x = pure x) :
    DPE X L (.ListComp elt [⟨tg, iter, ifs, 0⟩] scope pos) (dLcO mi g tt te (own.map (·.2))) := by
  have mg := (hg X.s_0 X.H_0 0 [] []).mo
  have mt := (ht X.s_0 X.H_0 0 [] []).mo
  have me := (he X.s_0 X.H_0 0 [] []).mo
  refine ⟨mo_lcO hi.mo mg mt me, pe_imp (pe_lc (g := upG X.K L.B is g) (tt := upT X.K L.B (fun _ _ _ _ => False) tt) (te := up X.K L.B (fun _ _ _ _ => False) te) hc hN hi.run ok (fun s H C cl fp => (hg s H C cl fp).run) (fun s H C cl fp => (ht s H C cl fp).run) (fun s H C cl fp => (he s H C cl fp).run) hs) fun σ H Q ⟨G, O, ρ, gd, rs, q⟩ => ?_⟩
  refine ⟨G, O, ρ, gd, rs, hi.mo ρ _ _ _ _ _ (fun x O1 z J G1 H1 s1 it Dd nD => ?_) (fun _ _ x => x) q⟩
  exact lc_run mg mt me s1 rs it z nD (in_of hv) fun acc vacc O1 G1 H1 p st a b c d e f => lc_own acc vacc O1 G1 H1 p st a b c d e f
end
end EV
set_option Elab.async false
set_option linter.all false
set_option maxRecDepth 100000
set_option maxHeartbeats 4000000
namespace EV
open PySem PySem.Spec PyProof.Rows L2
structure DEnds where
  nx : Slots → Ow → Prop
  rt : D → Ow → Prop
  bk : Slots → Ow → Prop := fun _ _ => False
  ct : Slots → Ow → Prop := fun _ _ => False
  ex : Xc → Slots → Ow → Prop := fun _ _ _ => False
structure DEnds.Le (A A' : DEnds) : Prop where
  nx : ∀ r O, A.nx r O → A'.nx r O
  rt : ∀ r O, A.rt r O → A'.rt r O
  bk : ∀ r O, A.bk r O → A'.bk r O
  ct : ∀ r O, A.ct r O → A'.ct r O
  ex : ∀ x r O, A.ex x r O → A'.ex x r O
abbrev DS := DEnds → Slots → Ow → Prop
def MoS (m : DS) : Prop := ∀ A A' ρ O, DEnds.Le A A' → m A ρ O → m A' ρ O
def dn (K : PySem.W.Frag) (L : Pl) (O : Ow) (G H : Hp) (Dn : Ends) : DEnds where
  nx := fun ρ O' => ∀ σ' G' H', Step K L.B O G H O' G' H' → RpS K G' σ' ρ → Dn.nx σ' H'
  rt := fun d O' => ∀ v G' H', Step K L.B O G H O' G' H' → Rp K G' v d → Dn.rt v H'
  bk := fun ρ O' => ∀ σ' G' H', Step K L.B O G H O' G' H' → RpS K G' σ' ρ → Dn.bk σ' H'
  ct := fun ρ O' => ∀ σ' G' H', Step K L.B O G H O' G' H' → RpS K G' σ' ρ → Dn.ct σ' H'
  ex := fun x ρ O' => ∀ σ' d fs G' H', Step K L.B O G H O' G' H' → RpS K G' σ' ρ → G' d = some (.xd fs) → RpF K G' fs x.2 → L.W σ' (.ref x.1) (some d) H'
def upS (K : PySem.W.Frag) (L : Pl) (m : DS) : TS := fun Dn σ H => ∃ G O ρ, Good K L.B O G H ∧ RpS K G σ ρ ∧ m (dn K L O G H Dn) ρ O
structure DPS (X : Cx) (L : Pl) (st : Stmt) (m : DS) : Prop where
  mo : MoS m
  run : PS X st (upS X.K L m)
structure DPSs (X : Cx) (L : Pl) (st : List Stmt) (m : DS) : Prop where
  mo : MoS m
  run : PSs X st (upS X.K L m)
section
variable {X : Cx} {L : Pl} {e a b c tg : Expr} {es rest : List Expr} {m ma mb mc : DE} {mt mu : DT} {mA : DA} {pos p : Pos} {st : Stmt} {sts : List Stmt} {ms mv : DS}
variable {K : PySem.W.Frag} {O O' : Ow} {G H G' H' : Hp} {σ : L2.St} {ρ : Slots}
theorem ps_imp {t t' : TS} (h : PS X st t) (i : ∀ Dn σ H, t' Dn σ H → t Dn σ H) : PS X st t' := ⟨fun pins s σ H Dn I q => h.run pins s σ H Dn I (i _ _ _ q)⟩
theorem pss_imp {t t' : TS} (h : PSs X sts t) (i : ∀ Dn σ H, t' Dn σ H → t Dn σ H) : PSs X sts t' := ⟨fun pins s σ H Dn I q => h.run pins s σ H Dn I (i _ _ _ q)⟩
theorem dn_step {Dn : Ends} (s : Step K L.B O G H O' G' H') : DEnds.Le (dn K L O G H Dn) (dn K L O' G' H' Dn) :=
  ⟨fun _ _ h σ' G2 H2 t r => h σ' G2 H2 (s.trans t) r, fun _ _ h v G2 H2 t r => h v G2 H2 (s.trans t) r, fun _ _ h σ' G2 H2 t r => h σ' G2 H2 (s.trans t) r, fun _ _ h σ' G2 H2 t r => h σ' G2 H2 (s.trans t) r,
    fun _ _ _ h σ' d fs G2 H2 t r a b => h σ' d fs G2 H2 (s.trans t) r a b⟩
/-- the wish of an expression's exceptions, from a statement's -/
theorem kx_of {Dn : Ends} {x : Xc} {O1 : Ow} (rs : RpS K G σ ρ) (h : (dn K L O G H Dn).ex x ρ O1) : kx K L.B O G H (L.W σ) x O1 := fun d fs G' H' s a r => h σ d fs G' H' s (rs.step s) a r
theorem upE {Dn : Ends} {R : VK} {P : QD} (mo : Mo m) (g : Good K L.B O G H) (r : RpS K G σ ρ) (h : m ρ O P (fun x O1 => (dn K L O G H Dn).ex x ρ O1))
    (k : ∀ d v O' G' H', P d O' → Step K L.B O G H O' G' H' → Rp K G' v d → R v H') : up K L.B L.W m σ H R :=
  up_of mo g r (mo ρ _ _ _ _ _ (fun _ _ z => z) (fun x _ z => kx_of r z) h) k
theorem upTE {Dn : Ends} {R : Bool → Hp → Prop} {P : Bool → Ow → Prop} (mo : Mo mt) (g : Good K L.B O G H) (r : RpS K G σ ρ) (h : mt ρ O P (fun x O1 => (dn K L O G H Dn).ex x ρ O1))
    (k : ∀ d O' G' H', P d O' → Step K L.B O G H O' G' H' → R d H') : upT K L.B L.W mt σ H R :=
  upT_of mo g r (mo ρ _ _ _ _ _ (fun _ _ z => z) (fun x _ z => kx_of r z) h) k
theorem upAE {Dn : Ends} {R : List V → Hp → Prop} {P : List D → Ow → Prop} (mo : Mo mA) (g : Good K L.B O G H) (r : RpS K G σ ρ) (h : mA ρ O P (fun x O1 => (dn K L O G H Dn).ex x ρ O1))
    (k : ∀ d v O' G' H', P d O' → Step K L.B O G H O' G' H' → RpL K G' v d → R v H') : upA K L.B L.W mA σ H R :=
  upA_of mo g r (mo ρ _ _ _ _ _ (fun _ _ z => z) (fun x _ z => kx_of r z) h) k
abbrev dNext : DS := fun A ρ O => A.nx ρ O
abbrev dSeq (t u : DS) : DS := fun A ρ O => t { A with nx := u A } ρ O
theorem mo_next : MoS dNext := fun A A' ρ O l h => l.nx _ _ h
theorem mo_seq (h1 : MoS ms) (h2 : MoS mv) : MoS (dSeq ms mv) := fun A A' ρ O l h => h1 { A with nx := mv A } { A' with nx := mv A' } ρ O ⟨fun r _ z => h2 _ _ _ _ l z, l.rt, l.bk, l.ct, l.ex⟩ h
theorem d_snil : DPSs X L [] dNext := ⟨mo_next, pss_imp pss_nil fun Dn σ H ⟨G, O, ρ, g, rs, q⟩ => q _ _ _ (Step.refl g) rs⟩
theorem d_scons (h1 : DPS X L st ms) (h2 : DPSs X L sts mv) : DPSs X L (st :: sts) (dSeq ms mv) := by
  refine ⟨mo_seq h1.mo h2.mo, pss_imp (pss_cons h1.run h2.run) fun Dn σ H ⟨G, O, ρ, g, rs, q⟩ => ?_⟩
  refine ⟨G, O, ρ, g, rs, h1.mo { dn X.K L O G H Dn with nx := mv (dn X.K L O G H Dn) } _ _ _ ⟨fun r O1 z σ' G' H' s rs' => ?_, fun _ _ z => z, fun _ _ z => z, fun _ _ z => z, fun _ _ _ z => z⟩ q⟩
  exact ⟨G', O1, r, s.good, rs', h2.mo _ _ _ _ (dn_step s) z⟩
theorem d_sone (h1 : DPS X L st ms) : DPSs X L [st] ms := ⟨h1.mo, pss_one h1.run⟩
abbrev dRet (m : DE) : DS := fun A ρ O => m ρ O A.rt (fun x O1 => A.ex x ρ O1)
theorem d_ret (h : DPE X L e m) : DPS X L (.Return (some e) pos) (dRet m) := by
  refine ⟨fun A A' ρ O l z => h.mo _ _ _ _ _ _ l.rt (fun x _ y => l.ex _ _ _ y) z, ps_imp (ps_ret h.run) fun Dn σ H ⟨G, O, ρ, g, rs, q⟩ => ?_⟩
  exact upE h.mo g rs q fun d v O' G' H' z s r => z v G' H' s r
abbrev dDrop (m : DE) : DS := fun A ρ O => m ρ O (fun _ O1 => A.nx ρ O1) (fun x O1 => A.ex x ρ O1)
theorem d_expr (h : DPE X L e m) (hs : swapsWith e none pos.line X.env = pure false) : DPS X L (.Expr e pos) (dDrop m) := by
  refine ⟨fun A A' ρ O l z => h.mo _ _ _ _ _ _ (fun d _ y => l.nx _ _ y) (fun x _ y => l.ex _ _ _ y) z, ps_imp (ps_expr h.run hs) fun Dn σ H ⟨G, O, ρ, g, rs, q⟩ => ?_⟩
  exact upE h.mo g rs q fun d v O' G' H' z s r => z σ G' H' s (rs.step s)
abbrev dIfS (t : DT) (u v : DS) : DS := fun A ρ O => t ρ O (fun c O1 => bc c (u A ρ O1) (v A ρ O1)) (fun x O1 => A.ex x ρ O1)
theorem d_ifS {s1 s2 : List Stmt} (hc : DPT X L c mt) (h1 : DPSs X L s1 ms) (h2 : DPSs X L s2 mv) : DPS X L (.If c s1 s2 pos) (dIfS mt ms mv) := by
  refine ⟨fun A A' ρ O l z => hc.mo _ _ _ _ _ _ (fun d _ y => by cases d <;> first | exact h1.mo _ _ _ _ l y | exact h2.mo _ _ _ _ l y) (fun x _ y => l.ex _ _ _ y) z, ps_imp (ps_if hc.run h1.run h2.run) fun Dn σ H ⟨G, O, ρ, g, rs, q⟩ => ?_⟩
  refine upTE hc.mo g rs q fun d O' G' H' z s => ?_
  cases d with
  | true => exact iteT ⟨G', O', ρ, s.good, rs.step s, h1.mo _ _ _ _ (dn_step s) z⟩
  | false => exact iteF ⟨G', O', ρ, s.good, rs.step s, h2.mo _ _ _ _ (dn_step s) z⟩
abbrev dAsg (m : DE) (g : DG) : DS := fun A ρ O => m ρ O (fun d O1 => g d ρ fun ρ' => A.nx ρ' O1) (fun x O1 => A.ex x ρ O1)
theorem run_asg {g : DG} {is : List Nat} {Dn : Ends} (hm : Mo m) (hg : MoG g) (h : upS K L (dAsg m g) Dn σ H) : tAsg (up K L.B L.W m) (upG K L.B is g) Dn σ H := by
  obtain ⟨G, O, ρ, gd, rs, q⟩ := h
  refine upE hm gd rs q fun d v O' G' H' z s r => ?_
  exact ⟨G', O', ρ, d, s.good, rs.step s, r, hg _ _ _ _ (fun ρ' y σ' rs' _ => y σ' G' H' s rs') z⟩
theorem mo_asg {g : DG} (hm : Mo m) (hg : MoG g) : MoS (dAsg m g) := fun A A' ρ O l z => hm _ _ _ _ _ _ (fun d _ y => hg _ _ _ _ (fun _ => l.nx _ _) y) (fun x _ y => l.ex _ _ _ y) z
theorem d_asg {g : DG} {is : List Nat} (he : DPE X L e m) (hg : DPG X L tg is g) (hs : swapsWithSole [tg] e pos.line X.env = pure false) (hw : swappedStores [tg] e X.env = pure none) (h1 : (assignEach [tg] X.env).map (·.2) = [assign tg X.env]) :
    DPS X L (.Assign [tg] e pos) (dAsg m g) := ⟨mo_asg he.mo hg.mo, ps_imp (ps_asg he.run hg.run hs hw h1) fun Dn σ H q => run_asg he.mo hg.mo q⟩
theorem mog_name {i : Nat} : MoG (dgName i) := fun _ _ _ _ h z => h _ z
theorem d_set {i : Nat} {x : Str} {pos' : Pos} (hN : X.N.Nodup) (hi : X.N[i]? = some x) (hx : Loc X.env.scope x) (he : DPE X L e m) (hs : swapsWith e (some (.Name x pos')) pos.line X.env = pure false) (hf : X.fn x = true ∨ X.env.scope.names.lookup x = some .local) :
    DPS X L (.Assign [.Name x pos'] e pos) (dAsg m (dgName i)) := by
  refine ⟨mo_asg he.mo mog_name, ps_imp (ps_set hN hi hx he.run hs hf) fun Dn σ H ⟨G, O, ρ, g, rs, q⟩ => ?_⟩
  exact upE he.mo g rs q fun d v O' G' H' z s r => z _ G' H' s ((rs.step s).set r)
/-- y = [..] on one row -/
theorem d_setLc {i : Nat} {y : Str} {py spos : Pos} {elt tg iter : Expr} {ifs : List Expr} {scope : Scope} {own : List (Str × Nat)} {is : List Nat} {mi : DI} {g : DG} {tt : DT} {te : DE} (hc : X.calm = true) (hN : X.N.Nodup) (hy : X.N[i]? = some y) (hyl : X.env.scope.names.lookup y = some .local)
    (hsw : swapsWith (.ListComp elt [⟨tg, iter, ifs, 0⟩] scope pos) (some (.Name y py)) spos.line X.env = pure true) (hi : DPI X L tg iter mi) (ok : BlkOk X.N X.env.scope scope own)
    (hg : ∀ (s : Shared) (H : Hp) (C : Addr) (cl : List (Str × Addr)) (fp : List Addr), DPG (X.blk s H scope (compEnvC scope cl C X.env) fp) L.blk tg is g)
    (ht : ∀ (s : Shared) (H : Hp) (C : Addr) (cl : List (Str × Addr)) (fp : List Addr), DPTs (X.blk s H scope (compEnvC scope cl C X.env) fp) L.blk ifs tt)
    (he : ∀ (s : Shared) (H : Hp) (C : Addr) (cl : List (Str × Addr)) (fp : List Addr), DPE (X.blk s H scope (compEnvC scope cl C X.env) fp) L.blk elt te)
    (hv : is.all (fun i => (own.map (·.2)).contains i) = true) (hs : ∀ x, foldedSetIterable iter X.env x = pure x) :
    DPS X L (.Assign [.Name y py] (.ListComp elt [⟨tg, iter, ifs, 0⟩] scope pos) spos) (dAsg (dLc mi g tt te (own.map (·.2))) (dgName i)) := by
  have mg := (hg X.s_0 X.H_0 0 [] []).mo
  have mt := (ht X.s_0 X.H_0 0 [] []).mo
  have me := (he X.s_0 X.H_0 0 [] []).mo
  have ml : Mo (dLc mi g tt te (own.map (·.2))) := mo_lc hi.mo mg mt me
  refine ⟨mo_asg ml mog_name, ps_imp (ps_setLc (g := upG X.K L.B is g) (tt := upT X.K L.B (fun _ _ _ _ => False) tt) (te := up X.K L.B (fun _ _ _ _ => False) te) hc hN hy hyl hsw hi.run ok (fun s H C cl fp => (hg s H C cl fp).run) (fun s H C cl fp => (ht s H C cl fp).run) (fun s H C cl fp => (he s H C cl fp).run) hs) fun Dn σ H ⟨G, O, ρ, gd, rs, q⟩ => ?_⟩
  have q2 : up X.K L.B L.W (dLc mi g tt te (own.map (·.2))) σ H (fun x H1 => gName i x σ H1 Dn.nx) := upE ml gd rs q fun d v O' G' H' z s r => z _ G' H' s ((rs.step s).set r)
  obtain ⟨G2, O2, ρ2, gd2, rs2, q2⟩ := q2
  refine ⟨G2, O2, ρ2, gd2, rs2, hi.mo ρ2 _ _ _ _ _ (fun x O1 z J G1 H1 s1 it Dd nD => ?_) (fun _ _ x => x) q2⟩
  exact lc_run mg mt me s1 rs2 it z nD (in_of hv) fun acc vacc O1 G1 H1 p st a b c d e f => lc_show acc vacc O1 G1 H1 p st a b c d e f
/-- y = [..] on one row -/
theorem d_setLcO {i : Nat} {y : Str} {py spos : Pos} {elt tg iter : Expr} {ifs : List Expr} {scope : Scope} {own : List (Str × Nat)} {is : List Nat} {mi : DI} {g : DG} {tt : DT} {te : DE} (hc : X.calm = true) (hN : X.N.Nodup) (hy : X.N[i]? = some y) (hyl : X.env.scope.names.lookup y = some .local)
    (hsw : swapsWith (.ListComp elt [⟨tg, iter, ifs, 0⟩] scope pos) (some (.Name y py)) spos.line X.env = pure true) (hi : DPI X L tg iter mi) (ok : BlkOk X.N X.env.scope scope own)
    (hg : ∀ (s : Shared) (H : Hp) (C : Addr) (cl : List (Str × Addr)) (fp : List Addr), DPG (X.blk s H scope (compEnvC scope cl C X.env) fp) L.blk tg is g)
    (ht : ∀ (s : Shared) (H : Hp) (C : Addr) (cl : List (Str × Addr)) (fp : List Addr), DPTs (X.blk s H scope (compEnvC scope cl C X.env) fp) L.blk ifs tt)
    (he : ∀ (s : Shared) (H : Hp) (C : Addr) (cl : List (Str × Addr)) (fp : List Addr), DPE (X.blk s H scope (compEnvC scope cl C X.env) fp) L.blk elt te)
    (hv : is.all (fun i => (own.map (·.2)).contains i) = true) (hs : ∀ x, foldedSetIterable iter X.env x = pure x) :
    DPS X L (.Assign [.Name y py] (.ListComp elt [⟨tg, iter, ifs, 0⟩] scope pos) spos) (dAsg (dLcO mi g tt te (own.map (·.2))) (dgName i)) := by
  have mg := (hg X.s_0 X.H_0 0 [] []).mo
  have mt := (ht X.s_0 X.H_0 0 [] []).mo
  have me := (he X.s_0 X.H_0 0 [] []).mo
  have ml : Mo (dLcO mi g tt te (own.map (·.2))) := mo_lcO hi.mo mg mt me
  refine ⟨mo_asg ml mog_name, ps_imp (ps_setLc (g := upG X.K L.B is g) (tt := upT X.K L.B (fun _ _ _ _ => False) tt) (te := up X.K L.B (fun _ _ _ _ => False) te) hc hN hy hyl hsw hi.run ok (fun s H C cl fp => (hg s H C cl fp).run) (fun s H C cl fp => (ht s H C cl fp).run) (fun s H C cl fp => (he s H C cl fp).run) hs) fun Dn σ H ⟨G, O, ρ, gd, rs, q⟩ => ?_⟩
  have q2 : up X.K L.B L.W (dLcO mi g tt te (own.map (·.2))) σ H (fun x H1 => gName i x σ H1 Dn.nx) := upE ml gd rs q fun d v O' G' H' z s r => z _ G' H' s ((rs.step s).set r)
  obtain ⟨G2, O2, ρ2, gd2, rs2, q2⟩ := q2
  refine ⟨G2, O2, ρ2, gd2, rs2, hi.mo ρ2 _ _ _ _ _ (fun x O1 z J G1 H1 s1 it Dd nD => ?_) (fun _ _ x => x) q2⟩
  exact lc_run mg mt me s1 rs2 it z nD (in_of hv) fun acc vacc O1 G1 H1 p st a b c d e f => lc_own acc vacc O1 G1 H1 p st a b c d e f
def forW (I : Ow → Prop) (g : DG) (b : DS) (A : DEnds) : List D → Slots → Ow → Prop
  | [], ρ, O => I O ∧ A.nx ρ O
  | d :: ds, ρ, O => I O ∧ g d ρ fun ρ' => b { A with nx := forW I g b A ds, ct := forW I g b A ds, bk := A.nx } ρ' O
theorem forW_mo {I : Ow → Prop} {g : DG} {b : DS} (hg : MoG g) (hb : MoS b) {A A' : DEnds} (l : DEnds.Le A A') : ∀ {ds : List D} {ρ : Slots} {O : Ow}, forW I g b A ds ρ O → forW I g b A' ds ρ O
  | [], _, _, z => ⟨z.1, l.nx _ _ z.2⟩
  | d :: ds, _, _, z => ⟨z.1, hg _ _ _ _ (fun ρ' y => hb { A with nx := forW I g b A ds, ct := forW I g b A ds, bk := A.nx } { A' with nx := forW I g b A' ds, ct := forW I g b A' ds, bk := A'.nx } _ _ ⟨fun r _ w => forW_mo hg hb l w, l.rt, l.nx, fun r _ w => forW_mo hg hb l w, l.ex⟩ y) z.2⟩
abbrev dFor (mi : DI) (g : DG) (b : DS) : DS := fun A ρ O => mi ρ O (fun x O1 => forW x.1 g b A x.2 ρ O1) (fun x O1 => A.ex x ρ O1)
theorem d_for {iter : Expr} {body : List Stmt} {mi : DI} {g : DG} {is : List Nat} (hp : PassesOwn (model X.prog X.w) X.A X.env X.xe) (hc : X.calm = true) (hi : DPI X L tg iter mi) (hg : DPG X L tg is g) (hb : DPSs X L body ms)
    (hs : ∀ x, foldedSetIterable iter X.env x = pure x) : DPS X L (.For tg iter body [] pos) (dFor mi g ms) := by
  refine ⟨fun A A' ρ O l z => hi.mo _ _ _ _ _ _ (fun d _ y => forW_mo hg.mo hb.mo l y) (fun x _ y => l.ex _ _ _ y) z, ps_imp (ps_for hp hc hi.run hg.run hb.run hs) fun Dn σ H ⟨G, O, ρ, gd, rs, q⟩ => ?_⟩
  refine ⟨G, O, ρ, gd, rs, hi.mo ρ _ _ _ _ _ (fun x O1 z J G1 H1 s1 it => ?_) (fun x _ z => kx_of rs z) q⟩
  obtain ⟨I, ds⟩ := x
  refine ⟨fun i m σ2 H2 => ∃ G2 O2 ρ2, m = ds.length - i ∧ i ≤ ds.length ∧ Step X.K L.B O1 G1 H1 O2 G2 H2 ∧ RpS X.K G2 σ2 ρ2 ∧ forW I g ms (dn X.K L O2 G2 H2 Dn) (ds.drop i) ρ2 O2,
    ⟨ds.length, G1, O1, ρ, by simp, Nat.zero_le _, Step.refl s1.good, rs.step s1, ?_⟩, ?_⟩
  · rw [List.drop_zero]
    exact forW_mo hg.mo hb.mo (dn_step s1) z
  · rintro i m σ2 H2 ⟨G2, O2, ρ2, rfl, hi2, st, rs2, hf⟩
    rcases Nat.lt_or_ge i ds.length with hlt | hge
    · have ei : ds[i]? = some ds[i] := List.getElem?_eq_getElem hlt
      have ed : ds.drop i = ds[i] :: ds.drop (i + 1) := List.drop_eq_getElem_cons hlt
      rw [ed] at hf
      obtain ⟨hI, hf⟩ := hf
      obtain ⟨go, yl⟩ := (it i O2 G2 H2 st.good st.grow hI).1 _ ei
      refine .inr ⟨go, fun σ3 H3 => ∃ G3 O3 ρ3, Step X.K L.B O1 G1 H1 O3 G3 H3 ∧ RpS X.K G3 σ3 ρ3 ∧ forW I g ms (dn X.K L O3 G3 H3 Dn) (ds.drop (i + 1)) ρ3 O3, fun σ3 H3 ⟨G3, O3, ρ3, a, b, c⟩ => ⟨ds.length - (i + 1), by omega, G3, O3, ρ3, rfl, by omega, a, b, c⟩, fun x H3 y => ?_⟩
      obtain ⟨G3, s3, rx⟩ := yl x H3 y
      refine ⟨G3, O2, ρ2, ds[i], s3.good, rs2.step s3, rx, hg.mo _ _ _ _ (fun ρ' z2 σ' rs' _ => ?_) hf⟩
      refine ⟨G3, O2, ρ', s3.good, rs', hb.mo { dn X.K L O2 G2 H2 Dn with nx := forW I g ms (dn X.K L O2 G2 H2 Dn) (ds.drop (i + 1)), ct := forW I g ms (dn X.K L O2 G2 H2 Dn) (ds.drop (i + 1)), bk := (dn X.K L O2 G2 H2 Dn).nx } _ _ _ ⟨fun r O4 w σ4 G4 H4 s4 rs4 => ?_, fun r O4 w v G4 H4 s4 r4 => ?_, fun r O4 w σ4 G4 H4 s4 rs4 => ?_, fun r O4 w σ4 G4 H4 s4 rs4 => ?_, fun x r O4 w σ4 d fs G4 H4 s4 rs4 a b => ?_⟩ z2⟩
      · exact ⟨G4, O4, r, st.trans (s3.trans s4), rs4, forW_mo hg.mo hb.mo (dn_step (s3.trans s4)) w⟩
      · exact w v G4 H4 (s3.trans s4) r4
      · exact w σ4 G4 H4 (s3.trans s4) rs4
      · exact ⟨G4, O4, r, st.trans (s3.trans s4), rs4, forW_mo hg.mo hb.mo (dn_step (s3.trans s4)) w⟩
      · exact w σ4 d fs G4 H4 (s3.trans s4) rs4 a b
    · rw [List.drop_eq_nil_of_le hge] at hf
      obtain ⟨hI, hf⟩ := hf
      refine .inl ⟨(it i O2 G2 H2 st.good st.grow hI).2 (show i = ds.length by omega), ?_⟩
      exact hf _ _ _ (Step.refl st.good) rs2
end
def startD (N : List Str) (ds : List D) : Slots := ds.map .sh ++ List.replicate (N.length - ds.length) .un
theorem start_rp {K : PySem.W.Frag} {G : Hp} {N : List Str} {vs : List V} {ds : List D} (r : RpL K G vs ds) : RpS K G (L2.start N vs) (startD N ds) := by
  have hl := r.length
  unfold L2.start startD
  refine ⟨by simp [hl], fun i d e => ?_⟩
  by_cases hi : i < ds.length
  · rw [List.getElem?_append_left (by simpa using hi), List.getElem?_map] at e
    cases q : ds[i]? with
    | none => rw [q] at e; cases e
    | some x =>
      rw [q] at e
      cases e
      obtain ⟨v, ev, rv⟩ := r.get q
      exact ⟨v, by rw [List.getElem?_append_left (by simpa [hl] using hi), List.getElem?_map, ev]; rfl, rv⟩
  · rw [List.getElem?_append_right (by simpa using hi)] at e
    rw [List.getElem?_replicate] at e
    split at e <;> cases e
/-- the ends of a def's body -/
abbrev endsD (Q : QD) (E : QX) : DEnds := { nx := fun _ O => Q .non O, rt := Q, ex := fun x _ O => E x O }
section
variable {P : Program} {w : World} {K : PySem.W.Frag} {mg : Str → Option Value} {base : Heap}
/-- a def that raises nothing -/
theorem fn_pure {x qual : Str} {st : Stmt} {f : Addr} {fd : FuncData} {N ps : List Str} {k : Nat} {sp : DSp} {ms : DS} (Fn : Fun K x qual st f fd) (S : FnScope N ps (defScope st)) (len : ∀ ds O Q E, sp ds O Q E → ds.length = ps.length)
    (hb : ∀ (cdv : Value) (A : Around) (outer : List Env) (s : Shared) (H : Hp) (E : XK), Room k (A.deeper (envOfC qual (defScope st) s.heap.objs.size f cdv)) →
      DPSs (cxOf CX0 P w K mg base N qual (defScope st) f cdv A outer s H E).nox ⟨bo0, fun _ _ _ _ => False⟩ (defBody st) ms)
    (h : ∀ ds O Q E, sp ds O Q E → ms (endsD Q E) (startD N ds) O) (noex : ∀ ds O Q E, sp ds O Q E → sp ds O Q fun _ _ => False) : FnOk P w K mg base CX0 (k + 1) f fd ps (spD K sp) := by
  refine Fn.ok S (fun vs H Q E ⟨G, O, ds, g, r, Q0, E0, h0, _⟩ => ?_) (fun cdv A outer s H vs Q E hr ⟨G, O, ds, g, r, Q0, E0, h0, hq, hx⟩ => ?_)
  · rw [r.length]; exact len _ _ _ _ h0
  · have b := hb cdv A outer s H E hr
    refine ⟨_, b.run, G, O, startD N ds, g, start_rp r, b.mo (endsD Q0 fun _ _ => False) _ _ _ ⟨fun ρ O1 z σ' G' H' s _ => hq _ _ z _ G' H' s .non, fun d O1 z v G' H' s rv => hq _ _ z v G' H' s rv, fun _ _ z => z.elim, fun _ _ z => z.elim, fun x ρ _ z => z.elim⟩ (h ds O Q0 (fun _ _ => False) (noex _ _ _ _ h0))⟩
/-- a def that takes the box first and raises nothing -/
theorem fn_box {x qual : Str} {st : Stmt} {f : Addr} {fd : FuncData} {N ps : List Str} {k : Nat} {sp : DSp} {ms : Addr → DS} (Fn : Fun K x qual st f fd) (S : FnScope N ps (defScope st)) (len : ∀ ds O Q E, sp ds O Q E → ds.length + 1 = ps.length)
    (hb : ∀ (cdv : Value) (A : Around) (outer : List Env) (s : Shared) (H : Hp) (E : XK) (b l : Addr) (T : List (Addr × Str)), Room k (A.deeper (envOfC qual (defScope st) s.heap.objs.size f cdv)) →
      DPSs (cxOf CX0 P w K mg base N qual (defScope st) f cdv A outer s H E).nox ⟨boB b l T, fun _ _ _ _ => False⟩ (defBody st) (ms b))
    (h : ∀ b ds O Q E, sp ds O Q E → ms b (endsD Q E) (startD N (.opq (.ref b) :: ds)) O) (noex : ∀ ds O Q E, sp ds O Q E → sp ds O Q fun _ _ => False) : FnOk P w K mg base CX0 (k + 1) f fd ps (spB K sp) := by
  refine Fn.ok S (fun vs H Q E ⟨b, l, T, ws, G, O, ds, ev, g, r, Q0, E0, h0, _⟩ => ?_) (fun cdv A outer s H vs Q E hr ⟨b, l, T, ws, G, O, ds, ev, g, r, Q0, E0, h0, hq, hx⟩ => ?_)
  · rw [ev, List.length_cons, r.length]; exact len _ _ _ _ h0
  · subst ev
    have bb := hb cdv A outer s H E b l T hr
    refine ⟨_, bb.run, G, O, startD N (.opq (.ref b) :: ds), g, start_rp (.cons (.opq _) r), bb.mo (endsD Q0 fun _ _ => False) _ _ _ ⟨fun ρ O1 z σ' G' H' s _ => hq _ _ z _ G' H' s .non, fun d O1 z v G' H' s rv => hq _ _ z v G' H' s rv, fun _ _ z => z.elim, fun _ _ z => z.elim, fun x ρ _ z => z.elim⟩ (h b ds O Q0 (fun _ _ => False) (noex _ _ _ _ h0))⟩
end
end EV
set_option Elab.async false
set_option linter.all false
set_option maxRecDepth 100000
set_option maxHeartbeats 4000000
namespace EV
open PySem PySem.Spec PyProof.Rows L2
abbrev P2 := D → D → (D → Prop) → Prop
mutual
def toP : D → Option PyData
  | .non => some .none
  | .bl b => some (.bool b)
  | .int i => some (.int i)
  | .str x => some (.str x)
  | .lst xs => (toPs xs).map .list
  | .tup xs => (toPs xs).map .tuple
  | _ => none
def toPs : List D → Option (List PyData)
  | [] => some []
  | x :: xs => match toP x, toPs xs with
    | some y, some ys => some (y :: ys)
    | _, _ => none
end
section
variable {K : PySem.W.Frag} {G H : Hp}
mutual
theorem Rp.dp (s : Sub G H) : ∀ {d : D} {v : V} {q : PyData}, Rp K G v d → toP d = some q → Dp K H v q
  | .non, _, _, .non, e => by cases e; exact .non
  | .bl _, _, _, .bl b, e => by cases e; exact .bl b
  | .int _, _, _, .int i, e => by cases e; exact .int i
  | .str _, _, _, .str x, e => by cases e; exact .str x
  | .opq _, _, _, .opq v, e => by simp [toP] at e
  | .lst ds, _, _, .lst h r, e => by
    simp only [toP, Option.map_eq_some_iff] at e
    obtain ⟨qs, e1, rfl⟩ := e
    exact .lst (s.lstL h) (RpL.dp s r e1)
  | .tup ds, _, _, .tup h r, e => by
    simp only [toP, Option.map_eq_some_iff] at e
    obtain ⟨qs, e1, rfl⟩ := e
    exact .tup (s.sqT h) (RpL.dp s r e1)
  | .dic _, _, _, .dic h r, e => by simp [toP] at e
  | .ins _ _, _, _, .ins h r, e => by simp [toP] at e
  | .exc _ _, _, _, .exc h _ _ r, e => by simp [toP] at e
theorem RpL.dp (s : Sub G H) : ∀ {ds : List D} {vs : List V} {qs : List PyData}, RpL K G vs ds → toPs ds = some qs → DpAll K H vs qs
  | [], _, _, .nil, e => by cases e; exact .nil
  | d :: ds, _, _, .cons h r, e => by
    simp only [toPs] at e
    split at e
    · rename_i y ys e1 e2
      cases e
      exact .cons (Rp.dp s h e1) (RpL.dp s r e2)
    · cases e
end
end
abbrev addD : P2
  | .int i, .int j, Q => Q (.int (i + j))
  | .str x, .str y, Q => x.length + y.length ≤ sizeLine ∧ Q (.str (x ++ y))
  | .lst xs, .lst ys, Q => xs.length + ys.length ≤ sizeLine ∧ Q (.lst (xs ++ ys))
  | .tup xs, .tup ys, Q => xs ≠ [] ∧ xs.length + ys.length ≤ sizeLine ∧ Q (.tup (xs ++ ys))
  | _, _, _ => False
abbrev iI (C : Int → Int → Prop) (g : Int → Int → D) : P2
  | .int i, .int j, Q => C i j ∧ Q (g i j)
  | _, _, _ => False
abbrev subD : P2 := iI (fun _ _ => True) fun i j => .int (i - j)
abbrev modD : P2 := iI (fun _ j => 0 < j) fun i j => .int (i % j)
abbrev mulD : P2
  | .int i, .int j, Q => CMul i j ∧ Q (.int (i * j))
  | .str x, .int n, Q => MulOk x n ∧ Q (.str (Txt.mul x n))
  | .lst xs, .int k, Q => -(2 ^ 63) ≤ k ∧ k < 2 ^ 63 ∧ xs.length * k.toNat ≤ sizeLine ∧ Q (.lst (List.replicate k.toNat xs).flatten)
  | _, _, _ => False
abbrev ordD (gi : Int → Int → Bool) (gs : Str → Str → Bool) : P2
  | .int i, .int j, Q => Q (.bl (gi i j))
  | .str x, .str y, Q => Q (.bl (gs x y))
  | _, _, _ => False
abbrev leD : P2 := ordD (fun i j => decide (i ≤ j)) fun x y => !decide (y.cps.toList < x.cps.toList)
abbrev gtD : P2 := ordD (fun i j => decide (j < i)) fun x y => decide (y.cps.toList < x.cps.toList)
/-- ==, told through f -/
def eqD (f : Bool → Bool) : P2
  | .int i, .int j, Q => Q (.bl (f (decide (i = j))))
  | .str x, .str y, Q => Q (.bl (f (decide (x = y))))
  | .bl x, .bl y, Q => Q (.bl (f (decide (x = y))))
  | a, b, Q => match toP a, toP b with
    | some x, some y => SeqAt.shaped x = true ∧ SeqAt.shaped y = true ∧ Q (.bl (f (PyData.eqv x y)))
    | _, _ => False
abbrev isNonD : D → Bool
  | .non => true
  | _ => false
/-- is None, is not None -/
abbrev isD (f : Bool → Bool) : P2
  | .opq _, _, _ => False
  | a, .non, Q => Q (.bl (f (isNonD a)))
  | _, _, _ => False
/-- in, not in -/
abbrev inD (f : Bool → Bool) : P2
  | .str ⟨⟨[c]⟩⟩, .str z, Q => Q (.bl (f (decide (c ∈ z.cps.toList))))
  | a, .lst xs, Q => match toP a, toPs xs with
    | some x, some ys => SeqAt.shaped x = true ∧ SeqAt.shaped (.list ys) = true ∧ Q (.bl (f (ys.any fun z => PyData.eqv z x)))
    | _, _ => False
  | _, _, _ => False
theorem sub_i {X : Cx} {B : Bo} {f : Value → Value → Sem Value} {C : Int → Int → Prop} {g : Int → Int → D} {gv : Int → Int → V} (h : OpR X f (rI C gv)) (hg : ∀ i j K G, Rp K G (gv i j) (g i j)) : OpD X B f (pu (iI C g)) := by
  refine ⟨fun O x y Q Q' q z => ?_, _, h, fun O G H x y a b Q gd r1 r2 q => ?_⟩
  · dsimp only [pu] at z ⊢; unfold iI at z ⊢
    split at z
    · exact ⟨z.1, q _ z.2⟩
    · exact z
  · dsimp only [pu] at q; unfold iI at q
    split at q
    · cases r1
      cases r2
      exact ⟨_, _, rfl, rfl, q.1, q.2 _ _ _ (Step.refl gd) (hg _ _ _ _)⟩
    · exact q.elim
section
variable {X : Cx} {B : Bo}
theorem od_sub : OpD X B (binaryOp .Sub) (pu subD) := by
  have h : OpR X (binaryOp .Sub) (rI (fun _ _ => True) fun i j => .int (i - j)) := fun pins s σ H x y v u Q I r1 r2 ⟨i, j, e1, e2, _, q⟩ => op_sub pins s σ H x y v u Q I r1 r2 ⟨i, j, e1, e2, q⟩
  exact sub_i h fun i j K G => .int _
theorem od_mod : OpD X B (binaryOp .Mod) (pu modD) := sub_i op_mod fun i j K G => .int _
theorem od_add : OpD X B (binaryOp .Add) (pu addD) := by
  refine ⟨fun O x y Q Q' q z => ?_, _, op_add.or (op_add_str.or (op_cat.or op_catT)), fun O G H x y a b Q gd r1 r2 q => ?_⟩
  · dsimp only [pu] at z ⊢; unfold addD at z ⊢
    split at z
    · exact q _ z
    · exact ⟨z.1, q _ z.2⟩
    · exact ⟨z.1, q _ z.2⟩
    · exact ⟨z.1, z.2.1, q _ z.2.2⟩
    · exact z
  · dsimp only [pu] at q; unfold addD at q
    split at q
    · cases r1
      cases r2
      exact .inl ⟨_, _, rfl, rfl, q _ _ _ (Step.refl gd) (.int _)⟩
    · cases r1
      cases r2
      exact .inr (.inl ⟨_, _, rfl, rfl, q.1, q.2 _ _ _ (Step.refl gd) (.str _)⟩)
    · cases r1 with
      | lst s1 l1 =>
        cases r2 with
        | lst s2 l2 => exact .inr (.inr (.inl ⟨_, _, _, _, rfl, rfl, gd.sub _ _ s1, gd.sub _ _ s2, by rw [l1.length, l2.length]; exact q.1, fun p np => q.2 _ _ _ (Step.new gd np) (new_lst gd np (l1.append l2))⟩))
    · rename_i xs ys
      cases r1 with
      | tup s1 l1 =>
        cases r2 with
        | tup s2 l2 =>
          refine .inr (.inr (.inr ⟨_, _, _, _, rfl, rfl, gd.sub.sqT s1, gd.sub.sqT s2, fun z => ?_, by rw [l1.length, l2.length]; exact q.2.1, fun z => ?_, fun z p np => q.2.2 _ _ _ (Step.new gd np) (new_tup gd np (l1.append l2))⟩))
          · subst z
            cases l1
            exact q.1 rfl
          · subst z
            cases l2
            rw [List.append_nil] at q
            exact q.2.2 _ _ _ (Step.refl gd) (.tup s1 l1)
    · exact q.elim
theorem RpL.rep {K : PySem.W.Frag} {G : Hp} {vs : List V} {ds : List D} (r : RpL K G vs ds) : ∀ n : Nat, RpL K G (List.replicate n vs).flatten (List.replicate n ds).flatten
  | 0 => .nil
  | n + 1 => by
    rw [List.replicate_succ, List.replicate_succ, List.flatten_cons, List.flatten_cons]
    exact r.append (RpL.rep r n)
theorem op_mulS : OpR X (binaryOp .Mult) (fun x y H Q => ∃ z n, x = .str z ∧ y = .int n ∧ MulOk z n ∧ Q (.str (Txt.mul z n)) H) := by
  intro pins s σ H x y v u Q I rx ry h
  obtain ⟨z, n, rfl, rfl, hk, q⟩ := h
  obtain ⟨t, rfl⟩ := rx
  obtain ⟨t', rfl⟩ := ry
  exact SB.mul hk fun t2 k => ⟨.str _, H, I.tok _, ⟨_, rfl⟩, q⟩
theorem od_mul : OpD X B (binaryOp .Mult) (pu mulD) := by
  refine ⟨fun O x y Q Q' q z => ?_, _, op_mul.or (op_mulS.or op_rep), fun O G H x y a b Q gd r1 r2 q => ?_⟩
  · dsimp only [pu] at z ⊢; unfold mulD at z ⊢
    split at z
    · exact ⟨z.1, q _ z.2⟩
    · exact ⟨z.1, q _ z.2⟩
    · exact ⟨z.1, z.2.1, z.2.2.1, q _ z.2.2.2⟩
    · exact z
  · dsimp only [pu] at q; unfold mulD at q
    split at q
    · cases r1
      cases r2
      exact .inl ⟨_, _, rfl, rfl, q.1, q.2 _ _ _ (Step.refl gd) (.int _)⟩
    · cases r1
      cases r2
      exact .inr (.inl ⟨_, _, rfl, rfl, q.1, q.2 _ _ _ (Step.refl gd) (.str _)⟩)
    · cases r1 with
      | lst s1 l1 =>
        cases r2
        exact .inr (.inr ⟨_, _, _, rfl, rfl, gd.sub _ _ s1, q.1, q.2.1, by rw [l1.length]; exact q.2.2.1, fun p np => q.2.2.2 _ _ _ (Step.new gd np) (new_lst gd np (l1.rep _))⟩)
    · exact q.elim
theorem od_ord {op : CmpOp} {gi : Int → Int → Bool} {gs : Str → Str → Bool} (h1 : OpR X (compareOp op) (rI0 fun i j => .bl (gi i j))) (h2 : OpR X (compareOp op) (fun x y H Q => ∃ i j, x = .str i ∧ y = .str j ∧ Q (.bl (gs i j)) H)) : OpD X B (compareOp op) (pu (ordD gi gs)) := by
  refine ⟨fun O x y Q Q' q z => ?_, _, h1.or h2, fun O G H x y a b Q gd r1 r2 q => ?_⟩
  · dsimp only [pu] at z ⊢; unfold ordD at z ⊢
    split at z
    · exact q _ z
    · exact q _ z
    · exact z
  · dsimp only [pu] at q; unfold ordD at q
    split at q
    · cases r1
      cases r2
      exact .inl ⟨_, _, rfl, rfl, q _ _ _ (Step.refl gd) (.bl _)⟩
    · cases r1
      cases r2
      exact .inr ⟨_, _, rfl, rfl, q _ _ _ (Step.refl gd) (.bl _)⟩
    · exact q.elim
theorem od_le : OpD X B (compareOp .LtE) (pu leD) := od_ord op_le op_le_str
theorem od_gt : OpD X B (compareOp .Gt) (pu gtD) := od_ord op_gt op_gt_str
theorem od_eqf {op : CmpOp} {f : Bool → Bool} (h1 : OpR X (compareOp op) (fun x y H Q => scal x y = true ∧ Q (.bl (f (decide (x = y)))) H))
    (h2 : OpR X (compareOp op) (fun x y H Q => ∃ d e, Dp X.K H x d ∧ Dp X.K H y e ∧ SeqAt.shaped d = true ∧ SeqAt.shaped e = true ∧ Q (.bl (f (PyData.eqv d e))) H)) : OpD X B (compareOp op) (pu (eqD f)) := by
  refine ⟨fun O x y Q Q' q z => ?_, _, h1.or h2, fun O G H x y a b Q gd r1 r2 q => ?_⟩
  · dsimp only [pu] at z ⊢; unfold eqD at z ⊢
    split at z
    · exact q _ z
    · exact q _ z
    · exact q _ z
    · split at z
      · exact ⟨z.1, z.2.1, q _ z.2.2⟩
      · exact z
  · dsimp only [pu] at q; unfold eqD at q
    split at q
    · cases r1
      cases r2
      rename_i i j
      have : decide (V.int i = V.int j) = decide (i = j) := by simp
      exact .inl ⟨rfl, by rw [this]; exact q _ _ _ (Step.refl gd) (.bl _)⟩
    · cases r1
      cases r2
      rename_i i j
      have : decide (V.str i = V.str j) = decide (i = j) := by simp
      exact .inl ⟨rfl, by rw [this]; exact q _ _ _ (Step.refl gd) (.bl _)⟩
    · cases r1
      cases r2
      rename_i i j
      have : decide (V.bl i = V.bl j) = decide (i = j) := by simp
      exact .inl ⟨rfl, by rw [this]; exact q _ _ _ (Step.refl gd) (.bl _)⟩
    · split at q
      · rename_i p1 p2 e1 e2
        exact .inr ⟨p1, p2, r1.dp gd.sub e1, r2.dp gd.sub e2, q.1, q.2.1, q.2.2 _ _ _ (Step.refl gd) (.bl _)⟩
      · exact q.elim
theorem od_eq (hu : X.A.units + 64 < cLine) : OpD X B (compareOp .Eq) (pu (eqD id)) := od_eqf op_eq (op_eqD hu)
theorem od_ne (hu : X.A.units + 64 < cLine) : OpD X B (compareOp .NotEq) (pu (eqD not)) := od_eqf op_ne (op_neD hu)
theorem od_isf {op : CmpOp} {f : Bool → Bool} (h : OpR X (compareOp op) (fun x y H Q => y = .non ∧ Q (.bl (f (decide (x = .non)))) H)) : OpD X B (compareOp op) (pu (isD f)) := by
  refine ⟨fun O x y Q Q' q z => ?_, _, h, fun O G H x y a b Q gd r1 r2 q => ?_⟩
  · dsimp only [pu] at z ⊢; unfold isD at z ⊢
    split at z
    · exact z
    · exact q _ z
    · exact z
  · dsimp only [pu] at q; unfold isD at q
    split at q
    · exact q.elim
    · cases r2
      refine ⟨rfl, ?_⟩
      cases r1 <;> first
        | exact q _ _ _ (Step.refl gd) (.bl _)
        | (rename_i nn _ _; exact (nn _ rfl).elim)
        | (rename_i nn; exact (nn _ rfl).elim)
    · exact q.elim
theorem od_is : OpD X B (compareOp .Is) (pu (isD id)) := od_isf op_isN
theorem toPs_list {K : PySem.W.Frag} {G H : Hp} {a : Addr} {ds : List D} {qs : List PyData} (s : Sub G H) (r : Rp K G (.ref a) (.lst ds)) (e : toPs ds = some qs) : Dp K H (.ref a) (.list qs) := r.dp s (by simp [toP, e])
theorem od_inf {op : CmpOp} {f : Bool → Bool} (h1 : OpR X (compareOp op) (fun x y H Q => ∃ (c : Nat) (z : Str), x = .str ⟨#[c]⟩ ∧ y = .str z ∧ Q (.bl (f (decide (c ∈ z.cps.toList)))) H))
    (h2 : OpR X (compareOp op) (fun x y H Q => ∃ d ds, Dp X.K H x d ∧ Dp X.K H y (.list ds) ∧ SeqAt.shaped d = true ∧ SeqAt.shaped (.list ds) = true ∧ Q (.bl (f (ds.any fun z => PyData.eqv z d))) H)) : OpD X B (compareOp op) (pu (inD f)) := by
  refine ⟨fun O x y Q Q' q z => ?_, _, h1.or h2, fun O G H x y a b Q gd r1 r2 q => ?_⟩
  · dsimp only [pu] at z ⊢; unfold inD at z ⊢
    split at z
    · exact q _ z
    · split at z
      · exact ⟨z.1, z.2.1, q _ z.2.2⟩
      · exact z
    · exact z
  · dsimp only [pu] at q; unfold inD at q
    split at q
    · cases r1
      cases r2
      exact .inl ⟨_, _, rfl, rfl, q _ _ _ (Step.refl gd) (.bl _)⟩
    · split at q
      · rename_i p1 p2 e1 e2
        cases r2 with
        | lst s2 l2 => exact .inr ⟨p1, p2, r1.dp gd.sub e1, toPs_list gd.sub (.lst s2 l2) e2, q.1, q.2.1, q.2.2 _ _ _ (Step.refl gd) (.bl _)⟩
      · exact q.elim
    · exact q.elim
theorem od_in (hu : X.A.units + 65 < cLine) : OpD X B (compareOp .In) (pu (inD id)) := od_inf op_in_sign (op_inD hu)
theorem od_notin (hu : X.A.units + 65 < cLine) : OpD X B (compareOp .NotIn) (pu (inD not)) := od_inf op_notIn_sign (op_notInD hu)
end
end EV
set_option Elab.async false
set_option linter.all false
set_option maxRecDepth 100000
set_option maxHeartbeats 4000000
namespace EV
open PySem PySem.Spec PyProof.Rows L2
abbrev PC := List D → (D → Prop) → Prop
abbrev lenD : PC
  | [.str y], Q => y.length ≤ sizeLine ∧ Q (.int y.length)
  | [.lst xs], Q => Q (.int xs.length)
  | [.tup xs], Q => Q (.int xs.length)
  | _, _ => False
abbrev toIntD : PC
  | [.int i], Q => Q (.int i)
  | [.bl k], Q => Q (.int (if k then 1 else 0))
  | _, _ => False
def toBs : List D → Option (List Bool)
  | [] => some []
  | .bl b :: r => (toBs r).map (b :: ·)
  | _ => none
def allD : PC
  | [.lst xs], Q => match toBs xs with
    | some bs => Q (.bl (bs.all id))
    | none => False
  | _, _ => False
def anyD : PC
  | [.lst xs], Q => match toBs xs with
    | some bs => Q (.bl (bs.any id))
    | none => False
  | _, _ => False
/-- the type's name of plain data -/
def tyD : D → Option String
  | .non => some "NoneType"
  | .bl _ => some "bool"
  | .int _ => some "int"
  | .str _ => some "str"
  | .lst _ => some "list"
  | .tup _ => some "tuple"
  | .dic _ => some "dict"
  | _ => none
def kn (n : String) : Bool := n == "str" || n == "int" || n == "bool" || n == "list" || n == "tuple" || n == "dict"
def isT (t n : String) : Bool := t == n || (t == "bool" && n == "int")
def isiB (d : D) (n : String) : Bool := match tyD d with
  | some t => isT t n
  | none => false
def isAny (d : D) : List D → Option Bool
  | [] => some false
  | .opq (.ty n) :: r => if kn n = true then (isAny d r).map (isiB d n || ·) else none
  | _ => none
def isiD : PC
  | [x, .opq (.ty n)], Q => kn n = true ∧ (tyD x).isSome = true ∧ Q (.bl (isiB x n))
  | _, _ => False
theorem toBs_vs {K : PySem.W.Frag} {G : Hp} : ∀ {ds : List D} {vs : List V} {bs : List Bool}, RpL K G vs ds → toBs ds = some bs → vs = bs.map V.bl
  | [], _, _, .nil, e => by cases e; rfl
  | .bl b :: r, _, _, .cons (.bl _) t, e => by
    simp only [toBs, Option.map_eq_some_iff] at e
    obtain ⟨bs, e1, rfl⟩ := e
    rw [toBs_vs t e1]; rfl
theorem kn_cases {n : String} (h : kn n = true) : n = "str" ∨ n = "int" ∨ n = "bool" ∨ n = "list" ∨ n = "tuple" ∨ n = "dict" := by
  unfold kn at h
  simp only [Bool.or_eq_true, beq_iff_eq] at h
  rcases h with ((((h | h) | h) | h) | h) | h <;> simp [h]
theorem kit_tab : ∀ t ∈ ["NoneType", "bool", "int", "str", "list", "tuple", "dict"], ∀ n ∈ ["str", "int", "bool", "list", "tuple", "dict"], kitB t n = some (isT t n) := by decide +kernel
theorem kit_isi {K : PySem.W.Frag} {d : D} {t n : String} (ht : tyD d = some t) (hn : kn n = true) : PySem.W.kitOne K (.type t) (.type n) = some (isiB d n) := by
  have e : isiB d n = isT t n := by unfold isiB; rw [ht]
  rw [e]
  refine kit_ty (kit_tab t ?_ n ?_)
  · cases d <;> simp [tyD] at ht <;> subst ht <;> simp
  · rcases kn_cases hn with q | q | q | q | q | q <;> subst q <;> simp
theorem Rp.ty {K : PySem.W.Frag} {G H : Hp} {d : D} {v : V} {t : String} (s : Sub G H) (r : Rp K G v d) (h : tyD d = some t) : TyX K H v (.type t) := by
  cases r with
  | non => cases h; exact .base .non
  | bl b => cases h; exact .base (.bl b)
  | int i => cases h; exact .base (.int i)
  | str x => cases h; exact .base (.str x)
  | opq => simp [tyD] at h
  | lst q _ => cases h; exact .base (.lst (s _ _ q))
  | tup q _ =>
    cases h
    rcases q with (q | ⟨o, q⟩) | ⟨o, its, n, q, c, _⟩
    · exact .base (.tup (s _ _ q))
    · exact .fTuple (s _ _ q)
    · exact .kTuple q c
  | dic q _ => cases h; exact .fDict (s _ _ q)
  | ins => simp [tyD] at h
  | exc => simp [tyD] at h
  | lam => simp [tyD] at h
  | nk => simp [tyD] at h
theorem isAny_run {K : PySem.W.Frag} {G : Hp} {d : D} {t : String} (ht : tyD d = some t) : ∀ {cs : List D} {vs : List V} {b : Bool}, RpL K G vs cs → isAny d cs = some b → ∃ us, Paired ClsV vs us ∧ PySem.W.kitAny K (.type t) us = some b
  | [], _, _, .nil, e => by cases e; exact ⟨[], .nil, rfl⟩
  | .opq (.ty n) :: r, _, _, .cons (.opq _) q, e => by
    unfold isAny at e
    split at e
    · rename_i hn
      simp only [Option.map_eq_some_iff] at e
      obtain ⟨b', e1, rfl⟩ := e
      obtain ⟨us, p, k⟩ := isAny_run ht q e1
      refine ⟨.type n :: us, .cons (.ty n) p, ?_⟩
      refine kitAny_cons (kit_isi ht hn) (fun z => ?_) (fun z => ?_)
      · rw [z, Bool.false_or]; exact k
      · rw [z, Bool.true_or]
    · cases e
section
variable {X : Cx} {L : Pl} {B : Bo} {e o : Expr} {m mo' : DE} {pos p : Pos}
/-- len, also of what a handle holds -/
def lenO : DC := fun O xs Q => lenD (xs.map (lk O)) Q
theorem cd_len : CallD X B (.builtin "len") lenO := by
  refine ⟨fun O x Q Q' q z => ?_, _, call_len, fun O G H vs ds Q g r h => ?_⟩
  · unfold lenO at z ⊢
    generalize x.map (lk O) = x at z ⊢
    unfold lenD at z ⊢
    split at z
    · exact ⟨z.1, q _ z.2⟩
    · exact q _ z
    · exact q _ z
    · exact z
  · unfold lenO at h
    cases r with
    | nil => exact h.elim
    | cons r1 r2 =>
      cases r2 with
      | cons _ _ =>
        simp only [List.map_cons] at h
        unfold lenD at h
        split at h <;> first | exact h.elim | (rename_i e; simp at e)
      | nil =>
        have rx := lk_rp g r1
        simp only [List.map_cons, List.map_nil] at h
        rename_i d0
        generalize lk O d0 = d at rx h
        cases d <;> first | exact h.elim | skip
        · cases rx.str; exact ⟨_, _, rfl, ⟨h.1, rfl⟩, h.2 _ _ _ (Step.refl g) (.int _)⟩
        · obtain ⟨a, vs, rfl, s, l⟩ := rx.lst g.sub
          exact ⟨_, _, rfl, .inl ⟨_, .inl (.inl s), rfl⟩, by rw [l.length]; exact h _ _ _ (Step.refl g) (.int _)⟩
        · obtain ⟨a, vs, rfl, s, l⟩ := rx.tup g.sub
          exact ⟨_, _, rfl, .inr ⟨_, s, rfl⟩, by rw [l.length]; exact h _ _ _ (Step.refl g) (.int _)⟩
theorem cd_int : CallD X B (.type "int") (pc toIntD) := by
  refine ⟨fun O x Q Q' q z => ?_, _, call_int1, fun O G H vs ds Q g r h => ?_⟩
  · dsimp only [pc] at z ⊢; unfold toIntD at z ⊢
    split at z
    · exact q _ z
    · exact q _ z
    · exact z
  · dsimp only [pc] at h; unfold toIntD at h
    split at h
    · cases r with | cons r1 r2 => cases r2; cases r1; exact .inl ⟨_, rfl, h _ _ _ (Step.refl g) (.int _)⟩
    · cases r with | cons r1 r2 => cases r2; cases r1; exact .inr ⟨_, rfl, h _ _ _ (Step.refl g) (.int _)⟩
    · exact h.elim
theorem cd_all (hc : X.calm = true) : CallD X B (.builtin "all") (pc allD) := by
  refine ⟨fun O x Q Q' q z => ?_, _, cr_all hc, fun O G H vs ds Q g r h => ?_⟩
  · dsimp only [pc] at z ⊢; unfold allD at z ⊢
    split at z
    · split at z
      · exact q _ z
      · exact z
    · exact z
  · dsimp only [pc] at h; unfold allD at h
    split at h
    · split at h
      · rename_i bs eb
        cases r with | cons r1 r2 => cases r2; cases r1 with | lst s l => exact ⟨_, bs, rfl, by rw [← toBs_vs l eb]; exact g.sub.lstL s, h _ _ _ (Step.refl g) (.bl _)⟩
      · exact h.elim
    · exact h.elim
theorem cd_isi : CallD X B (.builtin "isinstance") (pc isiD) := by
  refine ⟨fun O x Q Q' q z => ?_, _, call_isi, fun O G H vs ds Q g r h => ?_⟩
  · dsimp only [pc] at z ⊢; unfold isiD at z ⊢
    split at z
    · exact ⟨z.1, z.2.1, q _ z.2.2⟩
    · exact z
  · dsimp only [pc] at h; unfold isiD at h
    split at h
    · obtain ⟨h1, h2, h3⟩ := h
      obtain ⟨t, ht⟩ := Option.isSome_iff_exists.mp h2
      cases r with
      | cons r1 r2 =>
        cases r2 with
        | cons r3 r4 =>
          cases r4
          cases r3
          exact ⟨_, _, _, _, _, rfl, .ty _, r1.ty g.sub ht, kit_isi ht h1, h3 _ _ _ (Step.refl g) (.bl _)⟩
    · exact h.elim
/-- isinstance(x, (A, B, ..)) -/
abbrev dIsiT (m : DE) (mA : DA) : DE := fun ρ O Q E => m ρ O (fun x O1 => mA ρ O1 (fun cs O2 => cs.length ≤ 100 ∧ (tyD x).isSome = true ∧ match isAny x cs with
  | some b => Q (.bl b) O2
  | none => False) E) E
theorem d_isiT {es : List Expr} {mA : DA} {k : Nat} {tpos : Pos} (hg : Gl X "isinstance") (hm : X.mg "isinstance" = none) (he : DPE X L e m) (ha : DPA X L es mA)
    (hs : starEach [e, .Tuple es k tpos] X.env = (false, eval e X.env) :: starEach [.Tuple es k tpos] X.env) (hs2 : starEach [.Tuple es k tpos] X.env = (false, eval (.Tuple es k tpos) X.env) :: starEach [] X.env) (hpl : (backTo pos (starEach [.Tuple es k tpos] X.env)).any (·.1) = false) :
    DPE X L (.Call (.Name "isinstance" p) [e, .Tuple es k tpos] [] pos) (dIsiT m mA) := by
  refine ⟨fun ρ O Q Q' E E' q hx x => he.mo _ _ _ _ _ _ (fun _ _ z => ha.mo _ _ _ _ _ _ (fun cs _ y => ⟨y.1, y.2.1, ?_⟩) hx z) hx x, pe_imp (pe_callB call_isiT hg hm boot_isinstance (pa_cons he.run (pa_cons (pe_tup ha.run) pa_nil hs2) hs) (by decide) (by decide) hs hpl) fun σ H Q ⟨G, O, ρ, g, rs, q⟩ => ?_⟩
  · obtain ⟨_, _, y⟩ := y
    split at y
    · exact q _ _ y
    · exact y
  · refine up_of he.mo g rs q fun x v O1 G1 H1 q1 s1 r1 => ?_
    refine upA_of ha.mo s1.good (rs.step s1) (mo_step ha.mo s1 q1) fun cs vs O2 G2 H2 q2 s2 r2 => ?_
    obtain ⟨h1, h2, h3⟩ := q2
    obtain ⟨t, ht⟩ := Option.isSome_iff_exists.mp h2
    refine ⟨by rw [r2.length]; exact Nat.le_trans h1 (by decide), fun p np => ?_⟩
    split at h3
    · rename_i b eb
      obtain ⟨us, pu, ku⟩ := isAny_run ht r2 eb
      have s3 := Step.new (o := .tup vs) s2.good np
      exact ⟨_, _, _, _, _, _, rfl, upd_same, pu, (r1.mono (s2.trans s3).grow).ty s3.good.sub ht, ku, h3 _ _ _ ((s1.trans s2).trans s3) (.bl _)⟩
    · exact h3.elim
/-- a built-in class's name as a value -/
theorem d_ty {x : Str} {n : String} (hg : Gl X x) (hm : X.mg x = none) (hv : bootBuiltins x = some (.type n)) (hn : x ≠ "__name__") (hd : (x == ("__debug__" : Str)) = false) : DPE X L (.Name x pos) (dC (.opq (.ty n))) := d_c (v := .ty n) (pe_bltn hg hm hv rfl hn hd) fun _ => .opq _
theorem d_globI {x : Str} {i : Int} {t : Tok} (hg : Gl X x) (hm : X.mg x = some (.int i t)) (hd : (x == ("__debug__" : Str)) = false) : DPE X L (.Name x pos) (dC (.int i)) := d_c (v := .int i) (pe_glob hg hm ⟨t, rfl⟩ hd) fun _ => .int i
theorem d_globS {x : Str} {i : Str} {t : Tok} (hg : Gl X x) (hm : X.mg x = some (.str i t)) (hd : (x == ("__debug__" : Str)) = false) : DPE X L (.Name x pos) (dC (.str i)) := d_c (v := .str i) (pe_glob hg hm ⟨t, rfl⟩ hd) fun _ => .str i
def toSs : List D → Option (List Str)
  | [] => some []
  | .str b :: r => (toSs r).map (b :: ·)
  | _ => none
theorem toSs_vs {K : PySem.W.Frag} {G : Hp} : ∀ {ds : List D} {vs : List V} {bs : List Str}, RpL K G vs ds → toSs ds = some bs → vs = bs.map V.str
  | [], _, _, .nil, e => by cases e; rfl
  | .str b :: r, _, _, .cons (.str _) t, e => by
    simp only [toSs, Option.map_eq_some_iff] at e
    obtain ⟨bs, e1, rfl⟩ := e
    rw [toSs_vs t e1]; rfl
def joinOn (a : Str) (xs : List D) (Q : D → Prop) : Prop := match toSs xs with
  | some ys => (ys.map (·.length)).sum + ys.length * a.length ≤ 16777216 ∧ Q (.str (Txt.join a ys))
  | none => False
def joinD (a : Str) : D → (D → Prop) → Prop
  | .lst xs, Q => joinOn a xs Q
  | .tup xs, Q => joinOn a xs Q
  | _, _ => False
theorem joinOn_mo {a : Str} {xs : List D} {Q Q' : D → Prop} (h : ∀ d, Q d → Q' d) (z : joinOn a xs Q) : joinOn a xs Q' := by
  unfold joinOn at z ⊢
  split at z
  · exact ⟨z.1, h _ z.2⟩
  · exact z
theorem joinD_mo : ∀ a y Q Q', (∀ d, Q d → Q' d) → joinD a y Q → joinD a y Q' := fun x y Q Q' h z => by
  unfold joinD at z ⊢
  split at z
  · exact joinOn_mo h z
  · exact joinOn_mo h z
  · exact z
/-- s.m(e) of a text -/
abbrev dM1 (o : Str → D → (D → Prop) → Prop) (mo m : DE) : DE := fun ρ O Q E => mo ρ O (fun x O1 => match x with
  | .str a => m ρ O1 (fun y O2 => o a y fun d => Q d O2) E
  | _ => False) E
theorem mo_m1 {o : Str → D → (D → Prop) → Prop} (ho : ∀ a y Q Q', (∀ d, Q d → Q' d) → o a y Q → o a y Q') (h1 : Mo mo') (h2 : Mo m) : Mo (dM1 o mo' m) := fun ρ O Q Q' E E' q hx x => h1 ρ _ _ _ _ _ (fun d O1 z => by
  cases d <;> first
    | exact h2 ρ _ _ _ _ _ (fun _ _ y => ho _ _ _ _ (fun _ => q _ _) y) hx z
    | exact z) hx x
theorem d_m1 {id : String} {name : Str} {apos : Pos} {r : V → List V → Hp → VK → Prop} {o' : Str → D → (D → Prop) → Prop} (slot : Slot "str" name id) (ty : typeOf (.builtin id) = pure (.type "method_descriptor")) (rule : MtR X id r)
    (hr : ∀ O G H a vy y Q, Good X.K L.B O G H → Rp X.K G vy y → o' a y (fun d => kv X.K L.B O G H Q d O) → r (.str a) [vy] H Q) (mo1 : ∀ a y Q Q', (∀ d, Q d → Q' d) → o' a y Q → o' a y Q') (ho : DPE X L o mo') (he : DPE X L e m)
    (hs : starEach [e] X.env = [(false, eval e X.env)]) (hbase : attributeBase o name X.env (eval o X.env) = eval o X.env) (hline : (apos.endLine == pos.line) = true) :
    DPE X L (.Call (.Attribute o name apos) [e] [] pos) (dM1 o' mo' m) := by
  refine ⟨mo_m1 mo1 ho.mo he.mo, pe_imp (pe_m1 slot ty rule ho.run he.run hs hbase hline) fun σ H Q ⟨G, O, ρ, g, rs, q⟩ => ?_⟩
  refine up_of ho.mo g rs q fun x v O1 G1 H1 q1 s1 r1 => ?_
  cases r1 with
  | str a =>
    refine ⟨⟨a, rfl⟩, up_of he.mo s1.good (rs.step s1) (mo_step he.mo s1 q1) fun y vy O2 G2 H2 q2 s2 r2 => ?_⟩
    exact hr O2 G2 H2 a vy y Q s2.good r2 (mo1 _ _ _ _ (fun _ z => z.step (s1.trans s2)) q2)
  | non => exact q1.elim
  | bl => exact q1.elim
  | int => exact q1.elim
  | opq => exact q1.elim
  | lst => exact q1.elim
  | tup => exact q1.elim
  | dic => exact q1.elim
  | ins => exact q1.elim
  | exc => exact q1.elim
  | lam => exact q1.elim
  | nk => exact q1.elim
theorem d_join {apos : Pos} (ho : DPE X L o mo') (he : DPE X L e m) (hs : starEach [e] X.env = [(false, eval e X.env)]) (hbase : attributeBase o "join" X.env (eval o X.env) = eval o X.env) (hline : (apos.endLine == pos.line) = true) :
    DPE X L (.Call (.Attribute o "join" apos) [e] [] pos) (dM1 joinD mo' m) := by
  refine d_m1 F.slot_str_join F.type_str_join mt_join (fun O G H a vy y Q g ry h => ?_) joinD_mo ho he hs hbase hline
  unfold joinD at h
  split at h
  · unfold joinOn at h
    split at h
    · rename_i ys e1
      cases ry with
      | lst sq rl => exact ⟨a, _, ys, rfl, rfl, .inl (by rw [← toSs_vs rl e1]; exact g.sub.lstL sq), h.1, h.2 _ _ _ (Step.refl g) (.str _)⟩
    · exact h.elim
  · unfold joinOn at h
    split at h
    · rename_i ys e1
      cases ry with
      | tup sq rl => exact ⟨a, _, ys, rfl, rfl, .inr (by rw [← toSs_vs rl e1]; exact g.sub.sqT sq), h.1, h.2 _ _ _ (Step.refl g) (.str _)⟩
    · exact h.elim
  · exact h.elim
end
end EV
set_option Elab.async false
set_option linter.all false
set_option maxRecDepth 100000
set_option maxHeartbeats 4000000
namespace EV
open PySem PySem.Spec PyProof.Rows L2
inductive Src where
  | lst (a : Addr) | tup (a : Addr) | str (y : Str)
def SrcAt (K : PySem.W.Frag) (H : Hp) : Src → List V → Prop
  | .lst a, xs => SqL K H a xs
  | .tup a, xs => SqT K H a xs
  | .str y, xs => xs = y.cps.toList.map fun c => V.str ⟨#[c]⟩
def Src.fp : Src → List Addr
  | .lst a => [a]
  | .tup a => [a]
  | .str _ => []
/-- the iterator at it of the source stands at i -/
def Src.pos (s : Src) (it : Addr) (i : Nat) (h : Heap) : Prop := match s with
  | .lst a => h.IsListIter it a i
  | .tup a => h.IsTupleIter it a i
  | .str y => ∃ t, h.IsStrIter it (strIterType y) y t i
def SrcV (v : V) (s : Src) : Prop := match s with
  | .lst a => v = .ref a
  | .tup a => v = .ref a
  | .str y => v = .str y
theorem Src.pos_at {s : Src} {it : Addr} {i : Nat} {h h' : Heap} (p : s.pos it i h) (k : ∀ o, h.get? it = some o → h'.get? it = some o) : s.pos it i h' := by
  cases s with
  | lst a => exact p.at k
  | tup a => exact p.at k
  | str y => obtain ⟨t, o, e, r⟩ := p; exact ⟨t, o, k _ e, r⟩
theorem Src.pos_obj {s : Src} {it : Addr} {i : Nat} {h : Heap} (p : s.pos it i h) : ∃ o, h.get? it = some o ∧ ∀ v, o.data ≠ .cell v := by
  cases s with
  | lst a => obtain ⟨o, e, _, d⟩ := p; exact ⟨o, e, fun v q => by rw [d] at q; cases q⟩
  | tup a => obtain ⟨o, e, _, d⟩ := p; exact ⟨o, e, fun v q => by rw [d] at q; cases q⟩
  | str y => obtain ⟨t, o, e, _, d⟩ := p; exact ⟨o, e, fun v q => by rw [d] at q; cases q⟩
section
variable {X : Cx} {pins : List (Addr × Obj)} {σ : L2.St} {H : Hp} {s : Shared}
theorem src_inj (I : Inv X pins σ H s) {r : Src} {xs ys : List V} (h1 : SrcAt X.K H r xs) (h2 : SrcAt X.K H r ys) : xs = ys := by
  cases r with
  | lst a => exact I.list_inj h1 h2
  | tup a => exact I.tuple_inj h1 h2
  | str y => exact h1.trans h2.symm
/-- what the source's iterator draws, where it stands -/
theorem src_draws (I : Inv X pins σ H s) {r : Src} {xs : List V} {it : Addr} {i : Nat} (h : SrcAt X.K H r xs) (p : r.pos it i s.heap) (A : Around) (hh : A.handled = none) (ne : it ∉ r.fp) :
    ∃ (fp : List Addr) (P : Nat → Value → Prop) (St : Nat → Heap → Prop), fp = it :: r.fp ∧ Draws X.prog X.w A it fp xs.length P St ∧ St i s.heap ∧ (∀ j u, P j u → ∃ x, xs[j]? = some x ∧ RelV x u) ∧ ∀ j h, St j h → r.pos it j h := by
  cases r with
  | lst a =>
    obtain ⟨its, rv, pl, _⟩ := I.list h
    refine ⟨[it, a], fun i v => its.toArray[i]? = some v, fun i h => h.IsListIter it a i ∧ h.IsList a its.toArray, rfl, by rw [rv.length]; exact Draws.list hh it a (fun z => ne (by simp [Src.fp, z])) its.toArray, ⟨p, pl.isList⟩, fun j u hj => ?_, fun j h st => st.1⟩
    have hj' : its[j]? = some u := by simpa using hj
    cases e : xs[j]? with
    | none => rw [rv.none_of e] at hj'; cases hj'
    | some x =>
      obtain ⟨u', e2, r2⟩ := rv.get e
      rw [hj'] at e2
      cases e2
      exact ⟨x, rfl, r2⟩
  | tup a =>
    obtain ⟨its, rv, pl, _⟩ := I.tuple h
    refine ⟨[it, a], fun i v => its.toArray[i]? = some v, fun i h => h.IsTupleIter it a i ∧ h.IsTuple a its.toArray, rfl, by rw [rv.length]; exact Draws.tuple hh it a (fun z => ne (by simp [Src.fp, z])) its.toArray, ⟨p, pl⟩, fun j u hj => ?_, fun j h st => st.1⟩
    have hj' : its[j]? = some u := by simpa using hj
    cases e : xs[j]? with
    | none => rw [rv.none_of e] at hj'; cases hj'
    | some x =>
      obtain ⟨u', e2, r2⟩ := rv.get e
      rw [hj'] at e2
      cases e2
      exact ⟨x, rfl, r2⟩
  | str y =>
    obtain ⟨t, p⟩ := p
    have h : xs = y.cps.toList.map fun c => V.str ⟨#[c]⟩ := h
    refine ⟨[it], _, _, rfl, by rw [h, List.length_map, Array.length_toList]; exact Draws.text hh it y t, p, fun j u hj => ?_, fun j h st => ⟨t, st⟩⟩
    obtain ⟨c, u', e, rfl⟩ := hj
    refine ⟨.str ⟨#[c]⟩, ?_, ⟨u', rfl⟩⟩
    rw [h, List.getElem?_map, Array.getElem?_toList, e]
    rfl
end
def Itzz (K : PySem.W.Frag) (r1 r2 : Src) : It :=
  ⟨fun i H => ∃ (xs ys : List V) (x y : V), SrcAt K H r1 xs ∧ SrcAt K H r2 ys ∧ xs[i]? = some x ∧ ys[i]? = some y,
    fun i H v H' => ∃ T x y, v = .ref T ∧ H T = none ∧ H' = upd H T (.tup [x, y]) ∧ (∀ xs, SrcAt K H r1 xs → xs[i]? = some x) ∧ ∀ ys, SrcAt K H r2 ys → ys[i]? = some y,
    fun i H => ∃ xs ys : List V, SrcAt K H r1 xs ∧ SrcAt K H r2 ys ∧ i = min xs.length ys.length⟩
theorem turn_zz {P : Program} {w : World} {K : PySem.W.Frag} {elts : List Expr} {kk : Nat} {tpos : Pos} {z TI TO i1 i2 : Addr} {r1 r2 : Src} (S : ZipSep2 z TI TO i1 i2 (i1 :: r1.fp) (i2 :: r2.fp)) (n1 : i1 ∉ r1.fp) (n2 : i2 ∉ r2.fp) (nTI : TI ∉ r1.fp ∧ TI ∉ r2.fp) :
    Turn P w K (.Tuple elts kk tpos) (Itzz K r1 r2) [z, TI, TO, i1, i2] z (fun i h => IsZip h z TI TO .none ∧ IsTupOf2 h TI (.ref i1) (.ref i2) ∧ (∃ x y, IsTupOf2 h TO x y) ∧ r1.pos i1 i h ∧ r2.pos i2 i h) where
  mem := by simp
  obj := fun i h st c hc => by
    obtain ⟨hz, hTI, ⟨x, y, hTO⟩, p1, p2⟩ := st
    have e' : c = z ∨ c = TI ∨ c = TO ∨ c = i1 ∨ c = i2 := by simpa using hc
    rcases e' with q | q | q | q | q
    · rw [q]; exact ⟨_, hz, fun v q => nomatch q⟩
    · rw [q]; exact ⟨_, hTI, fun v q => nomatch q⟩
    · rw [q]; exact ⟨_, hTO, fun v q => nomatch q⟩
    · rw [q]; exact Src.pos_obj p1
    · rw [q]; exact Src.pos_obj p2
  keep := fun i h h' st k => by
    obtain ⟨hz, hTI, ⟨x, y, hTO⟩, p1, p2⟩ := st
    exact ⟨k z (by simp) _ hz, k TI (by simp) _ hTI, ⟨x, y, k TO (by simp) _ hTO⟩, Src.pos_at p1 fun o q => k i1 (by simp) o q, Src.pos_at p2 fun o q => k i2 (by simp) o q⟩
  item := by
    intro X hP hw hK hc i pins s σ H E I hf st hg
    subst hP hw hK
    obtain ⟨hz, hTI, hTO, p1, p2⟩ := st
    obtain ⟨xs, ys, x, y, q1, q2, hx, hy⟩ := hg
    have hh : X.A.in1.handled = none := I.ok.hd hc
    obtain ⟨fp1, P1, St1, rfl, D1, st1, rel1, pos1⟩ := src_draws I q1 p1 X.A.in1 hh n1
    obtain ⟨fp2, P2, St2, rfl, D2, st2, rel2, pos2⟩ := src_draws I q2 p2 X.A.in1 hh n2
    have W := WalksT.zipD2 (A := X.A) S D1 D2
    have hi : i < min xs.length ys.length := by
      have a := getElem?_lt hx
      have b := getElem?_lt hy
      omega
    refine W.item i s _ E hi ⟨hz, hTI, hTO, st1, st2⟩ fun T vals h' tk hp hT hTup mid keep => ?_
    refine ⟨_, rfl, W.go elts kk tpos i T { s with heap := h', toks := tk } _ E mid fun h2 stn keep2 => ?_⟩
    obtain ⟨u, v, pu, pv, rfl⟩ := hp
    obtain ⟨x', ex, ru⟩ := rel1 i u pu
    obtain ⟨y', ey, rv⟩ := rel2 i v pv
    rw [hx] at ex
    rw [hy] at ey
    cases ex
    cases ey
    have nT : T ∉ [z, TO, i1, i2] := W.apart i T h' mid
    have hT2 : h2.IsTuple T #[u, v] := hTup.at fun o e => keep2 T o nT e
    have new : ObjOk X.prog X.w (upd H T (.tup [x, y])) h2 T (.tup [x, y]) := ⟨by show 2 ≤ sizeLine; decide, [u, v], .cons ru (.cons rv .nil), hT2⟩
    have kk2 : ∀ c o, c ∉ [z, TI, TO, i1, i2] → s.heap.get? c = some o → h2.get? c = some o := fun c o hc e => by
      have n : c ∉ [z, TO, i1, i2] := fun q => hc (by simp at q ⊢; rcases q with q | q | q | q <;> simp [q])
      exact keep2 c o n (keep c o n e)
    have I1 : Inv X pins σ (upd H T (.tup [x, y])) { s with heap := h2, toks := tk } := I.turnedNew (t' := tk) (ch := [z, TI, TO, i1, i2]) kk2 hf hT new
    refine ⟨.ref T, _, I1, rfl, ⟨T, x, y, rfl, I.hok.fresh hT, rfl, fun l hl => by rw [src_inj I hl q1]; exact hx, fun l hl => by rw [src_inj I hl q2]; exact hy⟩, ⟨stn.1, stn.2.1, stn.2.2.1, pos1 _ _ stn.2.2.2.1, pos2 _ _ stn.2.2.2.2⟩, fun c hcm => ?_⟩
    have hlt : c < s.heap.objs.size := by
      have e' : c = z ∨ c = TI ∨ c = TO ∨ c = i1 ∨ c = i2 := by simpa using hcm
      rcases e' with q | q | q | q | q
      · rw [q]; exact Heap.lt_size hz
      · rw [q]; exact Heap.lt_size hTI
      · obtain ⟨a, b, hTO⟩ := hTO
        rw [q]; exact Heap.lt_size hTO
      · rw [q]; obtain ⟨o, e, _⟩ := Src.pos_obj p1; exact Heap.lt_size e
      · rw [q]; obtain ⟨o, e, _⟩ := Src.pos_obj p2; exact Heap.lt_size e
    rw [upd_ne (Nat.ne_of_lt (Nat.lt_of_lt_of_le hlt hT))]
    exact (hf c hcm).1
  done := by
    intro X hP hw hK hc i pins s σ H E I hf st hg
    subst hP hw hK
    obtain ⟨hz, hTI, hTO, p1, p2⟩ := st
    obtain ⟨xs, ys, q1, q2, hend⟩ := hg
    have hh : X.A.in1.handled = none := I.ok.hd hc
    obtain ⟨fp1, P1, St1, rfl, D1, st1, rel1, pos1⟩ := src_draws I q1 p1 X.A.in1 hh n1
    obtain ⟨fp2, P2, St2, rfl, D2, st2, rel2, pos2⟩ := src_draws I q2 p2 X.A.in1 hh n2
    have W := WalksT.zipD2 (A := X.A) S D1 D2
    subst hend
    refine W.done s _ E ⟨hz, hTI, hTO, st1, st2⟩ fun h' tk keep => ⟨rfl, I.turnedL (t' := tk) (ch := [z, TI, TO, i1, i2]) (fun c o hc e => ?_) hf⟩
    exact keep c o (fun q => hc (by simp at q ⊢; rcases q with q | q | q | q <;> simp [q])) e
  self := fun A i s Q E st h => wpAny_pyIter_zip st.1 h
section
variable {X : Cx} {L : Pl} {pins : List (Addr × Obj)} {σ : L2.St} {H : Hp} {s : Shared} {e e2 : Expr} {mA : DA} {pos p : Pos}
theorem src_begins (I : Inv X pins σ H s) {r : Src} {xs : List V} {v : V} {u : Value} (hv : SrcV v r) (h : SrcAt X.K H r xs) (ru : RelV v u) :
    ∃ (o : Obj) (Hc : Heap → Prop), Begins u o Hc ∧ Hc s.heap ∧ (∀ it h', h'.get? it = some o → r.pos it 0 h') ∧ ∀ b ∈ r.fp, b < s.heap.objs.size := by
  cases r with
  | lst a =>
    cases (show v = .ref a from hv)
    cases ru
    obtain ⟨its, rv, pl, _⟩ := I.list h
    refine ⟨_, _, begins_list a its.toArray, pl.isList, fun it h' e => ⟨_, e, rfl, rfl⟩, fun b hb => ?_⟩
    have hb : b = a := by simpa [Src.fp] using hb
    rw [hb]
    obtain ⟨o, e, _⟩ := pl.isList
    exact Heap.lt_size e
  | tup a =>
    cases (show v = .ref a from hv)
    cases ru
    obtain ⟨its, rv, pl, _⟩ := I.tuple h
    refine ⟨_, _, begins_tuple a its.toArray, pl, fun it h' e => ⟨_, e, rfl, rfl⟩, fun b hb => ?_⟩
    have hb : b = a := by simpa [Src.fp] using hb
    rw [hb]
    obtain ⟨o, e, _⟩ := (show s.heap.IsTuple a its.toArray from pl)
    exact Heap.lt_size e
  | str y =>
    cases (show v = .str y from hv)
    obtain ⟨t, rfl⟩ := ru
    exact ⟨_, _, begins_text y t, trivial, fun it h' e => ⟨t, _, e, rfl, rfl⟩, fun b hb => by cases hb⟩
def iZz (K : PySem.W.Frag) (ta : TA) : TI := fun σ H R => ta σ H fun vs H1 => ∃ v1 v2 r1 r2, vs = [v1, v2] ∧ SrcV v1 r1 ∧ SrcV v2 r2 ∧ (∃ xs, SrcAt K H1 r1 xs) ∧ (∃ ys, SrcAt K H1 r2 ys) ∧ R (Itzz K r1 r2) H1
theorem pi_zz {ta : TA} {tpos : Pos} {elts : List Expr} {kk : Nat} (hg : Gl X "zip") (hm : X.mg "zip" = none) (ha : PA X [e, e2] ta)
    (hs : starEach [e, e2] X.env = (false, eval e X.env) :: starEach [e2] X.env) (hpl : (backTo pos (starEach [e2] X.env)).any (·.1) = false) :
    PI X (.Tuple elts kk tpos) (.Call (.Name "zip" p) [e, e2] [] pos) (iZz X.K ta) := by
  refine ⟨fun pins s σ H R I h => ?_⟩
  refine Call_ (ld_blt I hg hm PyProof.Rows.boot_zip (PyProof.Rows.callWith_type1 (thn (ha.run pos pins s σ H _ I h) fun us s1 ⟨vs, H1, I1, r1, q1⟩ => ?_) hs hpl))
  obtain ⟨v1, v2, c1, c2, ex, k1, k2, ⟨xs, a1⟩, ⟨ys, a2⟩, q⟩ := q1
  subst ex
  cases r1 with
  | cons r rr =>
    cases rr with
    | cons r' rr =>
      cases rr
      obtain ⟨o1, Hc1, B1, h1, p1, f1⟩ := src_begins I1 k1 a1 r
      obtain ⟨o2, Hc2, B2, h2, p2, f2⟩ := src_begins I1 k2 a2 r'
      refine zip_begins2 B1 B2 h1 h2 fun h' hz hTI hTO g1 g2 hsz hk => ?_
      refine wpAny_pyIter_zip hz ?_
      have S := zip_sep2 (N := s1.heap.objs.size) f1 f2
      have nf : ∀ {fp : List Addr} {c : Addr}, (∀ b ∈ fp, b < s1.heap.objs.size) → s1.heap.objs.size ≤ c → c ∉ fp := fun hf hc z => absurd (Nat.lt_of_lt_of_le (hf _ z) hc) (Nat.lt_irrefl _)
      have I2 : Inv X pins σ H1 { s1 with heap := h' } := I1.kept (t' := s1.toks) hk
      refine ⟨s1.heap.objs.size + 4, [s1.heap.objs.size + 4, s1.heap.objs.size + 2, s1.heap.objs.size + 3, s1.heap.objs.size, s1.heap.objs.size + 1], _, _, H1, rfl, I2,
        turn_zz S (nf f1 (Nat.le_refl _)) (nf f2 (Nat.le_succ _)) ⟨nf f1 (Nat.le_add_right _ _), nf f2 (Nat.le_add_right _ _)⟩, ⟨hz, hTI, ⟨_, _, hTO⟩, p1 _ _ g1, p2 _ _ g2⟩, fun b hb => ?_, q⟩
      have hb' : s1.heap.objs.size ≤ b := by
        have e' : b = s1.heap.objs.size + 4 ∨ b = s1.heap.objs.size + 2 ∨ b = s1.heap.objs.size + 3 ∨ b = s1.heap.objs.size ∨ b = s1.heap.objs.size + 1 := by simpa using hb
        rcases e' with q | q | q | q | q <;> rw [q]
        · exact Nat.le_add_right _ _
        · exact Nat.le_add_right _ _
        · exact Nat.le_add_right _ _
        · exact Nat.le_refl _
        · exact Nat.le_succ _
      exact I1.fpOk hb' (I1.hok.fresh hb')
def zipL (xs ys : List D) : List D := List.zipWith (fun a b => .tup [a, b]) xs ys
/-- the items of a datum that is shown -/
def itemsP : D → (List D → Prop) → Prop
  | .lst xs, Q => Q xs
  | .tup xs, Q => Q xs
  | .str y, Q => Q (charsD y)
  | _, _ => False
theorem itemsP_mo : ∀ {x : D} {Q Q' : List D → Prop}, (∀ d, Q d → Q' d) → itemsP x Q → itemsP x Q'
  | .lst _, _, _, h, z => h _ z
  | .tup _, _, _, h, z => h _ z
  | .str _, _, _, h, z => h _ z
def zipD : List D → (IL → Prop) → Prop
  | [x, y], Q => itemsP x fun xs => itemsP y fun ys => Q (tt1, zipL xs ys)
  | _, _ => False
theorem zipD_mo {x : List D} {Q Q' : IL → Prop} (h : ∀ d, Q d → Q' d) (z : zipD x Q) : zipD x Q' := by
  unfold zipD at z ⊢
  split at z
  · exact itemsP_mo (fun _ y => itemsP_mo (fun _ w => h _ w) y) z
  · exact z
abbrev dZip (mA : DA) : DI := fun ρ O Q E => mA ρ O (fun xs O1 => zipD xs fun l => Q l O1) E
/-- a datum that is walked, as a source -/
theorem src_of {K : PySem.W.Frag} {G : Hp} {v : V} {d : D} {Q : List D → Prop} (r : Rp K G v d) (h : itemsP d Q) : ∃ (c : Src) (xs : List V) (ds : List D), SrcV v c ∧ RpL K G xs ds ∧ (∀ H, Sub G H → SrcAt K H c xs) ∧ Q ds := by
  cases r with
  | lst s l => exact ⟨.lst _, _, _, rfl, l, fun H sb => sb.lstL s, h⟩
  | tup s l => exact ⟨.tup _, _, _, rfl, l, fun H sb => sb.sqT s, h⟩
  | str y =>
    refine ⟨.str y, _, charsD y, rfl, ?_, fun H _ => rfl, h⟩
    have : ∀ cs : List Nat, RpL K G (cs.map fun c => V.str ⟨#[c]⟩) (cs.map fun c => D.str ⟨#[c]⟩) := fun cs => by
      induction cs with
      | nil => exact .nil
      | cons c r ih => exact .cons (.str _) ih
    exact this _
  | non => exact h.elim
  | bl => exact h.elim
  | int => exact h.elim
  | opq => exact h.elim
  | dic => exact h.elim
  | ins => exact h.elim
  | exc => exact h.elim
  | lam => exact h.elim
  | nk => exact h.elim
theorem itd_zz {K : PySem.W.Frag} {B : Bo} {G0 : Hp} {c1 c2 : Src} {xs ys : List V} {ds es : List D} (r1 : RpL K G0 xs ds) (r2 : RpL K G0 ys es) (a1 : ∀ H, Sub G0 H → SrcAt K H c1 xs) (a2 : ∀ H, Sub G0 H → SrcAt K H c2 ys) : ItD K B G0 (Itzz K c1 c2) (tt1, zipL ds es) := fun i O G H g sb _ => by
  have sH := sb.trans g.sub
  have hl : (zipL ds es).length = min xs.length ys.length := by simp [zipL, r1.length, r2.length]
  refine ⟨fun d e => ?_, fun (h : i = (zipL ds es).length) => ⟨xs, ys, a1 H sH, a2 H sH, by rw [← hl]; exact h⟩⟩
  have e : (zipL ds es)[i]? = some d := e
  unfold zipL at e
  rw [List.getElem?_zipWith] at e
  split at e
  · rename_i d1 d2 e1 e2
    cases e
    obtain ⟨v1, f1, q1⟩ := r1.get e1
    obtain ⟨v2, f2, q2⟩ := r2.get e2
    refine ⟨⟨xs, ys, v1, v2, a1 H sH, a2 H sH, f1, f2⟩, fun x H' y => ?_⟩
    obtain ⟨T, x', y', rfl, nT, rfl, g1, g2⟩ := y
    have h1 := g1 xs (a1 H sH)
    have h2 := g2 ys (a2 H sH)
    rw [f1] at h1
    rw [f2] at h2
    cases h1
    cases h2
    exact ⟨_, Step.new g nT, new_tup g nT (.cons (q1.mono sb) (.cons (q2.mono sb) .nil))⟩
  · cases e
theorem d_zip {tpos : Pos} {elts : List Expr} {kk : Nat} (hg : Gl X "zip") (hm : X.mg "zip" = none) (ha : DPA X L [e, e2] mA)
    (hs : starEach [e, e2] X.env = (false, eval e X.env) :: starEach [e2] X.env) (hpl : (backTo pos (starEach [e2] X.env)).any (·.1) = false) :
    DPI X L (.Tuple elts kk tpos) (.Call (.Name "zip" p) [e, e2] [] pos) (dZip mA) := by
  refine ⟨fun ρ O Q Q' E E' q hx x => ha.mo ρ _ _ _ _ _ (fun _ _ z => zipD_mo (fun _ => q _ _) z) hx x, pi_imp (pi_zz hg hm ha.run hs hpl) fun σ H Q ⟨G, O, ρ, g, rs, q⟩ => ?_⟩
  refine upA_of ha.mo g rs q fun xs vs O1 G1 H1 q1 s1 r1 => ?_
  unfold zipD at q1
  split at q1
  · cases r1 with
    | cons r2 r3 =>
      cases r3 with
      | cons r4 r5 =>
        cases r5
        obtain ⟨c1, xs1, ds1, k1, l1, a1, q1⟩ := src_of r2 q1
        obtain ⟨c2, xs2, ds2, k2, l2, a2, q1⟩ := src_of r4 q1
        exact ⟨_, _, c1, c2, rfl, k1, k2, ⟨_, a1 _ s1.good.sub⟩, ⟨_, a2 _ s1.good.sub⟩, q1 _ _ _ s1 (itd_zz l1 l2 a1 a2)⟩
  · exact q1.elim
end
end EV
set_option Elab.async false
set_option linter.all false
set_option maxRecDepth 100000
set_option maxHeartbeats 4000000
namespace EV
open PySem PySem.Spec PyProof.Rows L2
/-- one turn: Qy where an item is kept, Qs where not -/
def elW (g : DG) (tt : DT) (te : DE) (ρ : Slots) (d : D) (O : Ow) (Qy : QD) (Qs : Ow → Prop) : Prop :=
  g d ρ fun ρ' => tt ρ' O (fun c O1 => bc c (te ρ' O1 Qy (fun _ _ => False)) (Qs O1)) (fun _ _ => False)
theorem lcW_cons {I : Ow → Prop} {g : DG} {tt : DT} {te : DE} {ρ : Slots} {d : D} {ds acc : List D} {O : Ow} {Q : List D → Ow → Prop} (hI : I O) (h : elW g tt te ρ d O (fun y O1 => acc.length < sizeLine ∧ lcW I g tt te ρ ds (acc ++ [y]) O1 Q) (fun O1 => lcW I g tt te ρ ds acc O1 Q)) : lcW I g tt te ρ (d :: ds) acc O Q := ⟨hI, h⟩
/-- each turn gives what f tells, and changes nothing -/
theorem lcW_fm {I : Ow → Prop} {g : DG} {tt : DT} {te : DE} {ρ : Slots} {O : Ow} (hI : I O) (f : D → Option D) {Q : List D → Ow → Prop} : ∀ {ds acc : List D}, (∀ d ∈ ds, ∀ (Qy : QD) (Qs : Ow → Prop), (∀ y, f d = some y → Qy y O) → (f d = none → Qs O) → elW g tt te ρ d O Qy Qs) → acc.length + ds.length ≤ sizeLine →
    Q (acc ++ ds.filterMap f) O → lcW I g tt te ρ ds acc O Q
  | [], acc, _, _, q => ⟨hI, by simpa using q⟩
  | d :: ds, acc, h, hl, q => by
    have hl' : acc.length + (ds.length + 1) ≤ sizeLine := hl
    refine lcW_cons hI (h d List.mem_cons_self _ _ (fun y e => ⟨by omega, lcW_fm hI f (fun d' m => h d' (List.mem_cons_of_mem _ m)) (by simp; omega) ?_⟩) (fun e => lcW_fm hI f (fun d' m => h d' (List.mem_cons_of_mem _ m)) (by omega) ?_))
    · rw [List.filterMap_cons, e] at q
      simpa using q
    · rw [List.filterMap_cons, e] at q
      exact q
theorem lcW_map {I : Ow → Prop} {g : DG} {te : DE} {ρ : Slots} {O : Ow} (hI : I O) (f : D → D) {Q : List D → Ow → Prop} {ds acc : List D} (h : ∀ d ∈ ds, ∀ (Qy : QD), Qy (f d) O → g d ρ fun ρ' => te ρ' O Qy fun _ _ => False) (hl : acc.length + ds.length ≤ sizeLine) (q : Q (acc ++ ds.map f) O) : lcW I g dYes te ρ ds acc O Q := by
  refine lcW_fm hI (fun d => some (f d)) (fun d m Qy Qs h1 _ => ?_) hl (by simpa [List.filterMap_eq_map'] using q)
  exact h d m Qy (h1 _ rfl)
/-- each turn gives something that P tells of -/
inductive Each (P : D → D → Prop) : List D → List D → Prop
  | nil : Each P [] []
  | cons {d y : D} {ds ys : List D} : P d y → Each P ds ys → Each P (d :: ds) (y :: ys)
theorem Each.length {P : D → D → Prop} : ∀ {ds ys : List D}, Each P ds ys → ys.length = ds.length
  | _, _, .nil => rfl
  | _, _, .cons _ r => congrArg (· + 1) r.length
theorem lcW_each {I : Ow → Prop} {g : DG} {te : DE} {ρ : Slots} {O : Ow} (hI : I O) (P : D → D → Prop) {Q : List D → Ow → Prop} : ∀ {ds acc : List D}, (∀ d ∈ ds, ∀ (Qy : QD), (∀ y, P d y → Qy y O) → g d ρ fun ρ' => te ρ' O Qy fun _ _ => False) → acc.length + ds.length ≤ sizeLine →
    (∀ ys, Each P ds ys → Q (acc ++ ys) O) → lcW I g dYes te ρ ds acc O Q
  | [], acc, _, _, q => ⟨hI, by simpa using q [] .nil⟩
  | d :: ds, acc, h, hl, q => by
    have hl' : acc.length + (ds.length + 1) ≤ sizeLine := hl
    refine ⟨hI, h d List.mem_cons_self _ fun y py => ⟨by omega, lcW_each hI P (fun d' m => h d' (List.mem_cons_of_mem _ m)) (by simp; omega) fun ys r => ?_⟩⟩
    simpa using q (y :: ys) (.cons py r)
theorem toBs_map {α : Type} (f : α → Bool) : ∀ xs : List α, toBs (xs.map fun x => .bl (f x)) = some (xs.map f)
  | [] => rfl
  | x :: xs => by simp [toBs, toBs_map f xs]
theorem allD_of {xs : List D} {bs : List Bool} {Q : D → Prop} (h : toBs xs = some bs) (q : Q (.bl (bs.all id))) : allD [.lst xs] Q := by
  simp only [allD, h]
  exact q
theorem anyD_of {xs : List D} {bs : List Bool} {Q : D → Prop} (h : toBs xs = some bs) (q : Q (.bl (bs.any id))) : anyD [.lst xs] Q := by
  simp only [anyD, h]
  exact q
def co (x : Str) : List Nat := x.cps.toList
theorem co_len (x : Str) : (co x).length = x.length := by simp [co]; rfl
theorem co_app (x y : Str) : co (x ++ y) = co x ++ co y := by
  show (x.cps ++ y.cps).toList = _
  simp [co]
theorem fold_sing (acc : Array Nat) : ∀ cs : List Nat, ((cs.map fun c => (⟨#[c]⟩ : Str)).foldl (fun acc p => acc ++ (Str.empty).cps ++ p.cps) acc).toList = acc.toList ++ cs
  | [] => by simp
  | c :: cs => by
    rw [List.map_cons, List.foldl_cons, fold_sing _ cs]
    simp [Str.empty]
theorem join_sing (cs : List Nat) : co (Txt.join Str.empty (cs.map fun c => ⟨#[c]⟩)) = cs := by
  cases cs with
  | nil => rfl
  | cons c cs =>
    show (((cs.map fun c => (⟨#[c]⟩ : Str))).foldl (fun acc p => acc ++ (Str.empty).cps ++ p.cps) #[c]).toList = c :: cs
    rw [fold_sing]
    rfl
theorem toSs_map {α : Type} (f : α → Str) : ∀ xs : List α, toSs (xs.map fun x => .str (f x)) = some (xs.map f)
  | [] => rfl
  | x :: xs => by simp [toSs, toSs_map f xs]
theorem co_cut (z : Str) (lo hi : Option Int) : co (cutS z lo hi) = ((co z).drop (HT.sIx z.length 0 lo)).take (HT.sIx z.length z.length hi - HT.sIx z.length 0 lo) := by
  unfold co cutS
  simp
theorem cut_to (z : Str) {k : Int} (h0 : 0 ≤ k) (h1 : k ≤ z.length) : co (cutS z none (some k)) = (co z).take k.toNat := by
  rw [co_cut, HT.sIx_none]
  have e : HT.sIx z.length z.length (some k) = k.toNat := by
    show (if k < 0 then (k + (z.length : Int)).toNat else min k.toNat z.length) = k.toNat
    rw [if_neg (by omega)]
    omega
  rw [e, List.drop_zero, Nat.sub_zero]
theorem cut_from (z : Str) {k : Int} (h0 : 0 ≤ k) (h1 : k ≤ z.length) : co (cutS z (some k) none) = (co z).drop k.toNat := by
  rw [co_cut, HT.sIx_none]
  have e : HT.sIx z.length 0 (some k) = k.toNat := by
    show (if k < 0 then (k + (z.length : Int)).toNat else min k.toNat z.length) = k.toNat
    rw [if_neg (by omega)]
    omega
  rw [e, List.take_of_length_le]
  rw [List.length_drop, co_len]
  omega
/-- a for by what holds ahead of each turn -/
theorem forW_at {I : Ow → Prop} {g : DG} {b : DS} {A : DEnds} (ds0 : List D) (J : Nat → Slots → Ow → Prop) (hJ : ∀ i r O, J i r O → I O) (h : ∀ i d, ds0[i]? = some d → ∀ ρ O, J i ρ O → ∀ N : Slots → Ow → Prop, (∀ r O, J (i + 1) r O → N r O) → g d ρ fun ρ' => b { A with nx := N, ct := N, bk := A.nx } ρ' O) (he : ∀ r O, J ds0.length r O → A.nx r O) :
    ∀ {ds : List D} {i : Nat} {ρ : Slots} {O : Ow}, ds = ds0.drop i → i ≤ ds0.length → J i ρ O → forW I g b A ds ρ O
  | [], i, _, _, e, hl, hi => ⟨hJ _ _ _ hi, he _ _ (by
      have : ds0.length ≤ i := by
        have := congrArg List.length e
        simp at this
        omega
      have e2 : i = ds0.length := by omega
      rw [← e2]; exact hi)⟩
  | d :: ds, i, ρ, O, e, hl, hi => by
    have hlt : i < ds0.length := by
      have := congrArg List.length e
      simp at this
      omega
    have ed : ds0.drop i = ds0[i] :: ds0.drop (i + 1) := List.drop_eq_getElem_cons hlt
    rw [ed] at e
    injection e with e1 e2
    exact ⟨hJ _ _ _ hi, h i d (by rw [e1]; exact List.getElem?_eq_getElem hlt) ρ O hi (forW I g b A ds) fun r O hr => forW_at ds0 J hJ h he e2 hlt hr⟩
end EV
set_option Elab.async false
set_option linter.all false
set_option maxRecDepth 100000
set_option maxHeartbeats 4000000
namespace EV
open PySem PySem.Spec PyProof.Rows L2
def putD (f : Str) (v : D) : List (Str × D) → List (Str × D)
  | [] => [(f, v)]
  | (g, x) :: r => if g = f then (g, v) :: r else (g, x) :: putD f v r
section
variable {K : PySem.W.Frag} {G H : Hp}
theorem RpF.look {f : Str} : ∀ {fs : List (Str × V)} {ds : List (Str × D)} {d : D}, RpF K G fs ds → ds.lookup f = some d → ∃ v, fs.lookup f = some v ∧ Rp K G v d
  | _, _, _, .nil, e => by simp at e
  | (k, v) :: fs, (_, x) :: ds, d, .cons r t, e => by
    rw [List.lookup_cons] at e ⊢
    cases hq : f == k with
    | true => rw [hq] at e; cases e; exact ⟨v, rfl, r⟩
    | false => rw [hq] at e; exact RpF.look t e
theorem RpF.put {f : Str} {v : V} {d : D} (rv : Rp K G v d) : ∀ {fs : List (Str × V)} {ds : List (Str × D)}, RpF K G fs ds → RpF K G (putF f v fs) (putD f d ds)
  | _, _, .nil => .cons rv .nil
  | (k, x) :: fs, (_, y) :: ds, .cons r t => by
    unfold putF putD
    by_cases h : k = f
    · rw [if_pos h, if_pos h]; exact .cons rv t
    · rw [if_neg h, if_neg h]; exact .cons r (RpF.put rv t)
theorem RpF.length : ∀ {fs : List (Str × V)} {ds : List (Str × D)}, RpF K G fs ds → fs.length = ds.length
  | _, _, .nil => rfl
  | _, _, .cons _ t => congrArg (· + 1) (RpF.length t)
end
section
variable {X : Cx} {L : Pl} {e o a b c : Expr} {es rest : List Expr} {m mo' ma mb mc : DE} {mt mu : DT} {mA mK : DA} {pos p apos pos' : Pos}
variable {K : PySem.W.Frag} {B : Bo} {O : Ow} {W : L2.St → XK} {G H : Hp} {σ : L2.St} {ρ : Slots}
/-- the field f of an instance of C -/
def fldD (C : Addr) (f : Str) : D → (D → Prop) → Prop
  | .ins C' fs, Q => C' = C ∧ match fs.lookup f with
    | some d => Q d
    | none => False
  | _, _ => False
theorem fldD_mo {C : Addr} {f : Str} {x : D} {Q Q' : D → Prop} (h : ∀ d, Q d → Q' d) (z : fldD C f x Q) : fldD C f x Q' := by
  unfold fldD at z ⊢
  split at z
  · refine ⟨z.1, ?_⟩
    obtain ⟨_, z⟩ := z
    split at z
    · exact h _ z
    · exact z
  · exact z
abbrev dFld (C : Addr) (f : Str) (m : DE) : DE := fun ρ O Q E => m ρ O (fun x O1 => fldD C f (lk O1 x) fun d => Q d O1) E
theorem d_fld {C : Addr} {f : Str} (cl : Cls X.K C) (na : NoAttr X.K C f) (he : DPE X L e m) (hb : attributeBase e f X.env (eval e X.env) = eval e X.env) : DPE X L (.Attribute e f pos) (dFld C f m) := by
  refine ⟨fun ρ O Q Q' E E' q hx x => he.mo ρ _ _ _ _ _ (fun _ _ z => fldD_mo (fun _ => q _ _) z) hx x, pe_imp (pe_fld he.run hb) fun σ H Q ⟨G, O, ρ, g, rs, q⟩ => ?_⟩
  refine up_of he.mo g rs q fun x v O1 G1 H1 q1 s1 r1 => ?_
  have rx := lk_rp s1.good r1
  generalize lk O1 x = y at q1 rx
  unfold fldD at q1
  split at q1
  · obtain ⟨rfl, q1⟩ := q1
    split at q1
    · rename_i d ed
      obtain ⟨p, dx, fs, rfl, hp, rf⟩ := rx.ins s1.good.sub
      obtain ⟨w, ew, rw'⟩ := rf.look ed
      exact ⟨p, _, dx, fs, w, rfl, hp, cl, na, ew, q1 _ _ _ s1 rw'⟩
    · exact q1.elim
  · exact q1.elim
/-- o.f = e, o a handle -/
abbrev dSetF (C : Addr) (f : Str) (mo m : DE) : DS := fun A ρ O => m ρ O (fun d O1 => mo ρ O1 (fun x O2 => match x with
  | .opq (.ref p) => ∃ fs, O2 p = some (.ins C fs) ∧ fs.length < 1000 ∧ A.nx ρ (oset O2 p (.ins C (putD f d fs)))
  | _ => False) (fun x O1 => A.ex x ρ O1)) (fun x O1 => A.ex x ρ O1)
theorem d_setF {C : Addr} {f : Str} (cl : Cls X.K C) (na : NoAttr X.K C f) (ho : DPE X L o mo') (he : DPE X L e m) (hs : swapsWith e (some (.Attribute o f pos')) pos.line X.env = pure false) : DPS X L (.Assign [.Attribute o f pos'] e pos) (dSetF C f mo' m) := by
  refine ⟨fun A A' ρ O l z => he.mo _ _ _ _ _ _ (fun d O1 y => ho.mo _ _ _ _ _ _ (fun x O2 w => ?_) (fun x _ y => l.ex _ _ _ y) y) (fun x _ y => l.ex _ _ _ y) z, ps_imp (ps_fld ho.run he.run hs) fun Dn σ H ⟨G, O, ρ, g, rs, q⟩ => ?_⟩
  · split at w
    · obtain ⟨fs, a, b, c⟩ := w
      exact ⟨fs, a, b, l.nx _ _ c⟩
    · exact w
  · refine upE he.mo g rs q fun d v O1 G1 H1 q1 s1 r1 => ?_
    refine up_of ho.mo s1.good (rs.step s1) (ho.mo _ _ _ _ _ _ (fun _ _ z => z) (fun x _ z => (kx_of rs z).step s1) q1) fun x w O2 G2 H2 q2 s2 r2 => ?_
    split at q2
    · rename_i p
      cases r2
      obtain ⟨fs, ep, hl, q2⟩ := q2
      obtain ⟨nG, nb, dx, vs, hp, rf⟩ := s2.good.own p _ ep
      refine ⟨p, C, dx, vs, rfl, hp, cl, na, by rw [rf.length]; exact hl, ?_⟩
      have st := Step.put (o := .ins C dx (putF f v vs)) (d := .ins C (putD f d fs)) s2.good nG nb ⟨dx, _, upd_same, rf.put (r1.mono s2.grow)⟩ (.inl (by rw [ep]; exact Option.some_ne_none _))
      exact q2 σ _ _ ((s1.trans s2).trans st) (rs.step ((s1.trans s2).trans st))
    · exact q2.elim
theorem make_step {C x dx : Addr} (g : Good K B O G H) (nx : H x = none) (nd : H dx = none) (hd : dx ≠ x) : Step K B O G H (oset O x (.ins C [])) G (upd (upd H dx (.own x)) x (.ins C dx [])) := by
  have s1 := Step.newH (o := .own x) g nd
  have nx1 : upd H dx (.own x) x = none := by rw [upd_ne hd.symm]; exact nx
  exact s1.trans (new_own s1.good nx1 ⟨dx, [], upd_same, .nil⟩)
/-- C(..), shown as it is behind __init__ -/
def mkF (C : Addr) (sp : DSp) (ds : List D) (O : Ow) (Q : QD) (E : QX) : Prop := ∀ p, O p = none → spM sp (.opq (.ref p) :: ds) (oset O p (.ins C [])) (fun d O2 => d = .non ∧ ∃ C' fs, O2 p = some (.ins C' fs) ∧ Q (.ins C' fs) (odel O2 p)) E
theorem run_mkF {C x dx : Addr} {sp : DSp} {vs : List V} {ds : List D} {Q : VK} {E : XK} (g : Good K B O G H) (r : RpL K G vs ds) (nx : H x = none) (nd : H dx = none) (hd : dx ≠ x) (h : mkF C sp ds O (kv K B O G H Q) (kx K B O G H E)) :
    spD K sp (.ref x :: vs) (upd (upd H dx (.own x)) x (.ins C dx [])) (fun v H2 => v = .non ∧ Q (.ref x) H2) E := by
  have s := make_step (C := C) g nx nd hd
  refine ⟨G, _, _, s.good.none, .cons (.opq _) r, spM_mo (fun d O2 z => kv.lift s.good fun v G' H' t rv => ?_) (fun x O2 z => kx.lift s.good (z.step s)) (h x (g.fresh nx))⟩
  obtain ⟨rfl, C', fs', ey, z⟩ := z
  cases rv
  obtain ⟨G2, f, rp⟩ := Step.freeze t.good (fun _ h => by cases h) ey
  exact ⟨rfl, z _ _ _ ((s.trans t).trans f) rp⟩
structure DPK (X : Cx) (L : Pl) (kws : List Keyword) (m : DA) : Prop where
  mo : Mo m
  run : PK X kws (upA X.K L.B L.W m)
theorem pk_imp {kws : List Keyword} {t t' : TA} (h : PK X kws t) (i : ∀ σ H Q, t' σ H Q → t σ H Q) : PK X kws t' := ⟨fun pos pins s σ H Q I q => h.run pos pins s σ H Q I (i _ _ _ q)⟩
theorem d_knil : DPK X L [] dNil := ⟨mo_nil, pk_imp pk_nil fun σ H Q ⟨G, O, ρ, g, rs, q⟩ => q _ _ _ (Step.refl g) .nil⟩
theorem d_kcons {nm : Option Str} {kpos : Pos} {kws : List Keyword} (ha : DPE X L e m) (hr : DPK X L kws mA) : DPK X L (⟨nm, e, kpos⟩ :: kws) (dCons m mA) := by
  refine ⟨mo_cons ha.mo hr.mo, pk_imp (pk_cons ha.run hr.run) fun σ H Q ⟨G, O, ρ, g, rs, q⟩ => ?_⟩
  refine up_of ha.mo g rs q fun x v O1 G1 H1 q1 s1 r1 => ?_
  exact upA_of hr.mo s1.good (rs.step s1) (mo_step hr.mo s1 q1) fun xs vs O2 G2 H2 q2 s2 r2 => q2 _ _ _ (s1.trans s2) (.cons (r1.mono s2.grow) r2)
/-- C(e, .., k = v, ..): gD orders the data -/
abbrev dMkK (C : Addr) (n m : Nat) (k : List D → List D → DSp) (mA mK : DA) : DE := fun ρ O Q E => mA ρ O (fun ds O1 => mK ρ O1 (fun zs O2 => ds.length = n ∧ zs.length = m ∧ k ds zs [] O2 Q E) E) E
end
end EV
set_option Elab.async false
set_option linter.all false
set_option maxRecDepth 100000
set_option maxHeartbeats 4000000
namespace L2
open PySem PySem.Spec PyProof.Rows
end L2
set_option Elab.async false
set_option linter.all false
set_option maxRecDepth 100000
set_option maxHeartbeats 4000000
namespace L2
open PySem PySem.Spec PyProof.Rows PySem.XO
/-- an error class of the text: its name as code, its fields -/
structure Err (prog : Program) (w : World) (K : PySem.W.Frag) (mg : Str → Option Value) (base : Heap) (n : Nat) (C : Addr) (code : Str) (names : List Str) : Prop where
  kp : PySem.W.keepIn K (.ref C) = true
  exC : PySem.W.subIn K (.ref C) (.type "BaseException") = some true
  tyC : PySem.W.typeIn K (.ref C) = some (.type "type")
  run : Mod K mg base → ∀ (us : List Value), us.length = names.length → ∀ (A : Around) (R : Result → Shared → Prop) (s : Shared), (∀ b o, base.get? b = some o → s.heap.get? b = some o) → s.heap.NoLimit → A.depth + n < recursionLimit →
    (∀ h' tk e d mA t, (∀ f, mA f = List.lookup f ((("code" : Str), Value.str code t) :: names.zip us)) → Made s.heap h' e C d mA → R (.ok (.ret (.ref e))) { s with heap := h', toks := tk }) → codeAny (model prog w) A (.call (.ref C) ⟨us, []⟩) R s
def errF (code : Str) (names : List Str) (vs : List V) : List (Str × V) := (("code" : Str), V.str code) :: names.zip vs
theorem relO_zip {f : Str} : ∀ {names : List Str} {vs : List V} {us : List Value}, Vals vs us → RelO (List.lookup f (names.zip vs)) (List.lookup f (names.zip us))
  | [], _, _, _ => trivial
  | n :: ns, _, _, .nil => trivial
  | n :: ns, _, _, .cons r t => by
    simp only [List.zip_cons_cons, List.lookup_cons]
    cases f == n with
    | true => exact r
    | false => exact relO_zip t
theorem relO_err {f code : Str} {names : List Str} {vs : List V} {us : List Value} {t : Tok} (r : Vals vs us) : RelO ((errF code names vs).lookup f) (List.lookup f ((("code" : Str), Value.str code t) :: names.zip us)) := by
  unfold errF
  simp only [List.lookup_cons]
  cases f == ("code" : Str) with
  | true => exact ⟨t, rfl⟩
  | false => exact relO_zip r
end L2
namespace EV
open PySem PySem.Spec PyProof.Rows L2
theorem RpF.zip {K : PySem.W.Frag} {G : Hp} : ∀ {names : List Str} {vs : List V} {ds : List D}, RpL K G vs ds → RpF K G (names.zip vs) (names.zip ds)
  | [], _, _, _ => .nil
  | _ :: _, _, _, .nil => .nil
  | _ :: _, _, _, .cons r t => .cons r (RpF.zip t)
/-- the attributes of an error -/
def errD (code : Str) (names : List Str) (ds : List D) : List (Str × D) := (("code" : Str), D.str code) :: names.zip ds
end EV
set_option Elab.async false
set_option linter.all false
set_option maxRecDepth 100000
set_option maxHeartbeats 4000000
namespace PySem.W
open PySem PySem.Spec PySem.Calls PyProof.Rows
end PySem.W
namespace L2
open PySem PySem.Spec PyProof.Rows
end L2
namespace EV
open PySem PySem.Spec PyProof.Rows L2
end EV
set_option Elab.async false
set_option linter.all false
set_option maxRecDepth 100000
set_option maxHeartbeats 4000000
namespace EV
open PySem PySem.Spec PyProof.Rows L2
end EV
set_option Elab.async false
set_option linter.all false
set_option maxRecDepth 100000
set_option maxHeartbeats 4000000
namespace PySem
namespace XO
open PySem.W PySem.Calls PyProof.Rows PySem.HandSPX L2
/-- the text of an error's __init__ -/
structure IniD where
  cls : Str
  qual : Str
  params : Arguments
  body : List Stmt
  scope : Scope
def iniF (K : Frag) (c : Str) : Addr := He.ma K (He.ga K c) "__init__"
abbrev IniW := Option (Str × Str × Arguments × FuncBody × Scope × Addr × List Str × Addr)
def iniW (K : Frag) (c : Str) : IniW := match K.lookup (iniF K c) with
  | some ⟨_, _, .func fd, _⟩ => some (fd.name, fd.qualname, fd.params, fd.body, fd.scope, fd.globals, fd.closure.map (·.1), fd.builtins)
  | _ => none
def IniD.val (d : IniD) : IniW := some ("__init__", d.qual, d.params, .stmts d.body, d.scope, mainGlobals, ["__class__"], builtinsNs)
def cellB (K : Frag) (D : Addr) (cc : Addr) : Bool := match K.lookup cc with
  | some ⟨_, _, .cell (some (.ref a)), _⟩ => decide (a = D)
  | _ => false
def fileB (prog : Program) (K : Frag) : Value → Bool
  | .ref c => match K.lookup c with
    | some ⟨_, _, .fields vs, _⟩ => (match (vs[2]? : Option Value) with
      | some (Value.str file _) => (prog.main.file : Str) == file
      | _ => false)
    | _ => false
  | _ => false
def isNone : Value → Bool
  | .none => true
  | _ => false
def iniB (prog : Program) (K : Frag) (d : IniD) : Bool := match K.lookup (iniF K d.cls) with
  | some ⟨_, _, .func fd, _⟩ => codeIn K fd.code d.qual && (isNone fd.defaults && (isNone fd.kwdefaults && (fileB prog K fd.code && fd.closure.all fun q => cellB K (He.ga K d.cls) q.2)))
  | _ => false
theorem isNone_eq {v : Value} (h : isNone v = true) : v = .none := by cases v <;> first | rfl | cases h
theorem cellB_ok {K : Frag} {D cc : Addr} (h : cellB K D cc = true) : ∃ cl cld csl, K.lookup cc = some ⟨cl, cld, .cell (some (.ref D)), csl⟩ := by
  unfold cellB at h
  split at h
  · rename_i a b c d e
    exact ⟨_, _, _, by rw [e, of_decide_eq_true h]⟩
  · cases h
theorem fileB_ok {prog : Program} {K : Frag} {v : Value} (h : fileB prog K v = true) : ∃ c, v = .ref c ∧ ∃ ccl cdd vs ccs file tf, K.lookup c = some ⟨ccl, cdd, .fields vs, ccs⟩ ∧ vs[2]? = some (.str file tf) ∧ ((prog.main.file : Str) == file) = true := by
  unfold fileB at h
  split at h
  · rename_i c
    split at h
    · rename_i e
      split at h
      · rename_i e2
        exact ⟨c, rfl, _, _, _, _, _, _, e, e2, h⟩
      · cases h
    · cases h
  · cases h
/-- what can be seen of a scope -/
structure IniS (d : IniD) : Prop where
  self : ∃ ar, (d.params.posonlyargs ++ d.params.args).head? = some ar ∧ ar.arg = ("self" : Str)
  ks : d.scope.names.lookup ("super" : Str) = some .globalImplicit
  kc : d.scope.names.lookup ("__class__" : Str) = some .free
  ka : d.scope.names.lookup ("self" : Str) = some .local
  kd : d.scope.kind = .function
  nc : ∀ x ∈ d.scope.names, x.2 ≠ .cell
  co : d.scope.isCoroutine = false
  ge : d.scope.isGenerator = false
  ia : ∀ L f cda cc, interactive (ksEnv d.qual d.scope L f (.ref cda) cc) = false
theorem ini_of {prog : Program} {K : Frag} {d : IniD} (e : iniW K d.cls = d.val) (b : iniB prog K d = true) (S : IniS d) : ∃ cc cda fd, Ini prog K (He.ga K d.cls) (iniF K d.cls) d.qual d.params d.body d.scope cc cda fd := by
  unfold iniW at e
  unfold iniB at b
  cases q : K.lookup (iniF K d.cls) with
  | none => rw [q] at b; cases b
  | some o =>
    obtain ⟨oc, od, dt, osl⟩ := o
    rw [q] at b e
    cases dt with
    | func fd =>
      obtain ⟨n1, n2, n3, n4, n5, n6, n7, n8, n9, n10, n11, n12, n13, n14, n15⟩ := fd
      have e2 : (some (n1, n2, n3, n4, n5, n6, n7.map (·.1), n15) : IniW) = (some (("__init__" : Str), d.qual, d.params, FuncBody.stmts d.body, d.scope, mainGlobals, [("__class__" : Str)], builtinsNs) : IniW) := e
      simp only [Option.some.injEq, Prod.mk.injEq] at e2
      obtain ⟨h1, h2, h3, h4, h5, h6, h7, h8⟩ := e2
      subst h1 h2 h3 h4 h5 h6 h8
      have c3 : (codeIn K n13 d.qual && (isNone n8 && (isNone n9 && (fileB prog K n13 && n7.all fun q => cellB K (He.ga K d.cls) q.2)))) = true := b
      obtain ⟨k1, k2⟩ := He.ba c3
      obtain ⟨k3, k4⟩ := He.ba k2
      obtain ⟨k5, k6⟩ := He.ba k4
      obtain ⟨k7, k8⟩ := He.ba k6
      obtain rfl := isNone_eq k3
      obtain rfl := isNone_eq k5
      obtain ⟨cda, rfl, hfile⟩ := fileB_ok k7
      match n7, h7, k8 with
      | [(x, cc)], h7, k8 =>
        have ex : x = ("__class__" : Str) := by simpa using h7
        subst ex
        have hc : cellB K (He.ga K d.cls) cc = true := by simpa using k8
        exact ⟨cc, cda, _, ⟨⟨oc, od, n10, n11, n12, n14, osl, rfl, q⟩, k1, cellB_ok hc, hfile, S.self, S.ks, S.kc, S.ka, S.kd, S.nc, S.co, S.ge, fun L => S.ia L _ _ _⟩⟩
      | [], h7, _ => simp at h7
      | _ :: _ :: _, h7, _ => simp at h7
    | _ => cases b
end XO
end PySem
set_option Elab.async false
set_option linter.all false
set_option maxRecDepth 100000
set_option maxHeartbeats 4000000
namespace PySem
namespace XO
open PySem.W PySem.Calls PyProof.Rows PySem.HandSPX L2
structure SaysI (fa : List He.Fa) (fn : List He.DefD) (ts : List He.Tab) (ins : List IniD) (ex : Frag → Bool) (w : World) (K : Frag) : Prop where
  t : He.SaysT fa fn ts w K
  more : ex K = true
  ini : ∀ d ∈ ins, iniW K d.cls = d.val
abbrev AlI : Type := (He.AlT × Bool) × List IniW
def obsI (fa : List He.Fa) (fn : List He.DefD) (ts : List He.Tab) (ins : List IniD) (ex : Frag → Bool) (K : Frag) : AlI := ((He.obsT fa fn ts K, ex K), ins.map fun d => iniW K d.cls)
def valI (fn : List He.DefD) (ts : List He.Tab) (ins : List IniD) (w : World) : AlI := ((He.valT fn ts w, true), ins.map IniD.val)
theorem map_ext_mem {α β : Type} {f g : α → β} : ∀ {l : List α}, l.map f = l.map g → ∀ x ∈ l, f x = g x
  | [], _, x, h => by simp at h
  | a :: l, e, x, h => by
    simp only [List.map_cons, List.cons.injEq] at e
    rcases List.mem_cons.mp h with q | q
    · rw [q]; exact e.1
    · exact map_ext_mem e.2 x q
theorem saysI_of {fa : List He.Fa} {fn : List He.DefD} {ts : List He.Tab} {ins : List IniD} {ex : Frag → Bool} {w : World} {K : Frag} (e : obsI fa fn ts ins ex K = valI fn ts ins w) : SaysI fa fn ts ins ex w K := by
  have e1 : (He.obsT fa fn ts K, ex K) = (He.valT fn ts w, true) := congrArg (fun z : AlI => z.1) e
  have e2 : ins.map (fun d => iniW K d.cls) = ins.map IniD.val := congrArg (fun z : AlI => z.2) e
  exact ⟨congrArg (fun z : He.AlT × Bool => z.1) e1, congrArg (fun z : He.AlT × Bool => z.2) e1, fun d h => map_ext_mem e2 d h⟩
def eqV (a b : Option (Option Value)) : Bool := decide (a = b)
/-- a class over the built-in error B -/
def exB (B newId : String) (bmB : List Value) (K : Frag) (C : Addr) : Bool := excInitIn K C bmB newId && ((clsIn K C).any (fun cd => excTail bmB cd.mro && (!cd.mro.isEmpty && cd.hasDict)) && (eqV (findIn K (.ref C) "__setattr__") (some (some (.builtin "object.__setattr__"))) && (decide (subIn K (.ref C) (.type B) = some true) && eqV (nsIn K cStatics "thirdparty.any") (some none))))
theorem exB_ok {B newId i : String} {bmB : List Value} {K : Frag} {C : Addr} (kf : KxsFacts B i) (fb : ExcBaseFacts B newId i bmB) (st : StoreFacts B bmB "object.__setattr__" "object") (h : exB B newId bmB K C = true) : ExC K C B newId i bmB := by
  unfold exB at h
  simp only [Bool.and_eq_true] at h
  obtain ⟨h1, h2, h3, h4, h5⟩ := h
  refine ⟨kf, fb, st, h1, ?_, of_decide_eq_true h3, of_decide_eq_true h4, of_decide_eq_true h5⟩
  cases e : clsIn K C with
  | none => rw [e] at h2; cases h2
  | some cd =>
    rw [e] at h2
    have h2 : (excTail bmB cd.mro && (!cd.mro.isEmpty && cd.hasDict)) = true := h2
    simp only [Bool.and_eq_true, Bool.not_eq_true'] at h2
    exact ⟨cd, rfl, h2.1, h2.2.1, h2.2.2⟩
/-- what every error class has -/
def anB (K : Frag) (C f : Addr) : Bool := keepIn K (.ref C) && (decide (subIn K (.ref C) (.type "BaseException") = some true) && (decide (typeIn K (.ref C) = some (.type "type")) && (eqV (findIn K (.ref C) "__init__") (some (some (.ref f))) && (decide (typeIn K (.ref f) = some (.type "function")) && (fnIn K f && (decide (mroIn K C (.ref C) = some true)
  && (eqV (findIn K (.ref C) "__getattribute__") (some (some (.builtin "BaseException.__getattribute__"))) && (eqV (findIn K (.ref C) "__getattr__") (some none) && (hasDictIn K C && (eqV (findIn K (.ref C) "__class__") (some (some (.builtin "object.__class__"))) && (eqV (specialIn K (.builtin "object.__class__") "__get__") (some (some (.builtin "getset_descriptor.__get__"))) && (decide (takesIn K (.builtin "object.__class__") = some true) && decide (mroIn K C (.type "object") = some true)))))))))))))
structure AnC (K : Frag) (C f : Addr) : Prop where
  kp : keepIn K (.ref C) = true
  exC : subIn K (.ref C) (.type "BaseException") = some true
  tyC : typeIn K (.ref C) = some (.type "type")
  iC : findIn K (.ref C) "__init__" = some (some (.ref f))
  tf : typeIn K (.ref f) = some (.type "function")
  fn : fnIn K f = true
  mC : mroIn K C (.ref C) = some true
  xf : XfC K C
  xc : ExcC K C
theorem anB_ok {K : Frag} {C f : Addr} (h : anB K C f = true) : AnC K C f := by
  unfold anB at h
  simp only [Bool.and_eq_true] at h
  obtain ⟨h1, h2, h3, h4, h5, h6, h7, h8, h9, h10, h11, h12, h13, h14⟩ := h
  have e2 := of_decide_eq_true h2
  have e8 := of_decide_eq_true h8
  have e9 := of_decide_eq_true h9
  exact ⟨h1, e2, of_decide_eq_true h3, of_decide_eq_true h4, of_decide_eq_true h5, h6, of_decide_eq_true h7, ⟨e8, e9, e2, h10⟩, ⟨e8, e9, e2, h10, of_decide_eq_true h11, of_decide_eq_true h12, of_decide_eq_true h13, of_decide_eq_true h14⟩⟩
end XO
end PySem
set_option Elab.async false
set_option linter.all false
set_option maxRecDepth 100000
set_option maxHeartbeats 4000000
namespace PySem
namespace XO
open PySem.W PySem.Calls PyProof.Rows PySem.HandSPX L2
section
variable {prog : Program} {w : World} {K : Frag} {mg : Str → Option Value} {base : Heap}
variable {C D f f2 cc cda : Addr} {qual : Str} {ps : Arguments} {scope : Scope} {fd : FuncData} {B newId i : String} {bmB : List Value}
/-- an error class, out of its __init__ -/
theorem err_of (EC : ExC K C B newId i bmB) (AC : AnC K C f) {code : Str} {names : List Str} {n : Nat} (hz : names.length ≤ 1000)
    (IO : Mod K mg base → ∀ us : List Value, us.length = names.length → InitOk prog w K mg base n C f us (fun mA => ∃ t, ∀ y, mA y = List.lookup y ((("code" : Str), Value.str code t) :: names.zip us))) : Err prog w K mg base (n + 1) C code names :=
  ⟨AC.kp, AC.exC, AC.tyC, fun Md us hl A R s bk hlim hroom hq => made EC Md AC.iC AC.tf (by rw [hl, sizeLine_eq]; omega) (IO Md us hl) bk hlim hroom fun h' tk e d mA ⟨t, hm⟩ M => hq h' tk e d mA t hm M⟩
theorem look1 {a : Str} {u c : Value} (ha : a ≠ "code") (y : Str) : (if y = a then some u else if y = "code" then some c else none) = List.lookup y [(("code" : Str), c), (a, u)] := by
  simp only [List.lookup_cons, List.lookup_nil]
  by_cases h1 : y = a
  · subst h1
    have : (y == ("code" : Str)) = false := by simpa using ha
    simp [this]
  · by_cases h2 : y = "code"
    · subst h2; simp [h1]
    · have e1 : (y == ("code" : Str)) = false := by simpa using h2
      have e2 : (y == a) = false := by simpa using h1
      simp [h1, h2, e1, e2]
end
end XO
end PySem
set_option Elab.async false
set_option linter.all false
set_option maxRecDepth 100000
set_option maxHeartbeats 4000000
namespace PySem
namespace XO
open PySem.W PySem.Calls PyProof.Rows PySem.HandSPX L2
/-- a built-in error beneath the text's classes -/
structure Lib (B newId i : String) (bmB : List Value) : Prop where
  kf : KxsFacts B i
  fb : ExcBaseFacts B newId i bmB
  st : StoreFacts B bmB "object.__setattr__" "object"
abbrev bmV : List Value := [.type "ValueError", .type "Exception", .type "BaseException", .type "object"]
theorem lib_V : Lib "ValueError" "ValueError.__new__" "ValueError.__init__" bmV := ⟨kxs_ValueError, F.excBase_ValueError, F.store_ValueError⟩
/-- a class, seen: fields that it does not have itself -/
def clsB (prog : Program) (B newId : String) (bmB : List Value) (K : Frag) (d : IniD) (fs : List Str) : Bool :=
  exB B newId bmB K (He.ga K d.cls) && (anB K (He.ga K d.cls) (iniF K d.cls) && (iniB prog K d && fs.all fun f => eqV (findIn K (.ref (He.ga K d.cls)) f) (some none)))
/-- a class c over D over a built-in -/
def overB (i : String) (K : Frag) (c D : Str) : Bool :=
  eqV (ks_superIn K (He.ga K c) (He.ga K c) "__init__") (some (some (.ref (iniF K D)))) && (eqV (ks_superIn K (He.ga K c) (He.ga K D) "__init__") (some (some (.builtin i))) && decide (mroIn K (He.ga K c) (.ref (He.ga K D)) = some true))
theorem eqV_ok {a b : Option (Option Value)} (h : eqV a b = true) : a = b := of_decide_eq_true h
structure ClsO (prog : Program) (B newId i : String) (bmB : List Value) (K : Frag) (d : IniD) (fs : List Str) : Prop where
  ec : ExC K (He.ga K d.cls) B newId i bmB
  an : AnC K (He.ga K d.cls) (iniF K d.cls)
  ini : ∃ cc cda fd, Ini prog K (He.ga K d.cls) (iniF K d.cls) d.qual d.params d.body d.scope cc cda fd
  na : ∀ f ∈ fs, findIn K (.ref (He.ga K d.cls)) f = some none
theorem clsO_of {prog : Program} {B newId i : String} {bmB : List Value} {K : Frag} {d : IniD} {fs : List Str} (lb : Lib B newId i bmB) (S : IniS d) (e : iniW K d.cls = d.val) (h : clsB prog B newId bmB K d fs = true) : ClsO prog B newId i bmB K d fs := by
  unfold clsB at h
  simp only [Bool.and_eq_true, List.all_eq_true] at h
  obtain ⟨h1, h2, h3, h4⟩ := h
  exact ⟨exB_ok lb.kf lb.fb lb.st h1, anB_ok h2, ini_of e h3 S, fun f hf => eqV_ok (h4 f hf)⟩
section
variable {prog : Program} {w : World} {K : Frag} {mg : Str → Option Value} {base : Heap} {B newId i : String} {bmB : List Value}
abbrev HevT (d : IniD) (p0 p1 p2 p3 : Pos) (e : Expr) : Prop := ∃ pl : Addr → Addr → Addr → Addr → Sem Bool, ∀ L f cda cc, eval (supC p0 p1 p2 p3 e) (ksEnv d.qual d.scope L f (.ref cda) cc) = (do
      let ov ← attributeBase (.Call (.Name "super" p0) [] [] p1) "__init__" (ksEnv d.qual d.scope L f (.ref cda) cc) (eval (.Call (.Name "super" p0) [] [] p1) (ksEnv d.qual d.scope L f (.ref cda) cc))
      standAt p2.atName
      let (f2, first) ← holding [ov] (getMethod ov "__init__" (pl L f cda cc))
      callWith p3 f2 first (backTo p3 (starEach [e] (ksEnv d.qual d.scope L f (.ref cda) cc))) [])
/-- the text of a base class: def __init__(self, code): super().__init__(code); self.code = code -/
structure BaseT (d : IniD) : Prop where
  body : ∃ p0 p1 p2 p3 p4 q0 q1 q2 r0 r1, d.body = [.Expr (supC p0 p1 p2 p3 (.Name "code" r0)) p4, setS "code" q0 q1 q2 (.Name "code" r1)] ∧ HevT d p0 p1 p2 p3 (.Name "code" r0)
  kc : d.scope.names.lookup ("code" : Str) = some .local
  bd : ∀ doc pm an cdv ct cc x v, bindArgs (ksFn "__init__" d.qual d.params d.body d.scope .none .none doc pm an cdv ct cc) ⟨[x, v], []⟩ = pure [(("self" : Str), x), (("code" : Str), v)]
structure Sub1T (d : IniD) (N a : Str) : Prop where
  body : ∃ p0 p1 p2 p3 p4 q0 q1 q2 j0 r0 r1, d.body = [.Expr (supC p0 p1 p2 p3 (.Constant (.str N) j0 r0)) p4, setS a q0 q1 q2 (.Name a r1)] ∧ HevT d p0 p1 p2 p3 (.Constant (.str N) j0 r0)
  ka : d.scope.names.lookup a = some .local
  nm : (a == ("__debug__" : Str)) = false ∧ a ≠ "self" ∧ a ≠ "code"
  bd : ∀ doc pm an cdv ct cc x v, bindArgs (ksFn "__init__" d.qual d.params d.body d.scope .none .none doc pm an cdv ct cc) ⟨[x, v], []⟩ = pure [(("self" : Str), x), (a, v)]
structure TopO (prog : Program) (mg : Str → Option Value) : Prop where
  sup : mg "super" = none
  top : (prog.main.scope.names.lookup ("super" : Str)).isSome = false
variable {d dD : IniD} {fs gs : List Str} {newB iB : String} {bB : List Value}
theorem overB_ok {c D : Str} (h : overB i K c D = true) : ks_superIn K (He.ga K c) (He.ga K c) "__init__" = some (some (.ref (iniF K D))) ∧ ks_superIn K (He.ga K c) (He.ga K D) "__init__" = some (some (.builtin i)) ∧ mroIn K (He.ga K c) (.ref (He.ga K D)) = some true := by
  unfold overB at h
  simp only [Bool.and_eq_true] at h
  exact ⟨eqV_ok h.1, eqV_ok h.2.1, of_decide_eq_true h.2.2⟩
/-- the base class's __init__, for the class c -/
theorem base_in (T : TopO prog mg) (O : ClsO prog B newId i bmB K d fs) (OD : ClsO prog B newId i bmB K dD gs) (TD : BaseT dD) (hc : ("code" : Str) ∈ fs) (ov : overB i K d.cls dD.cls = true) (Md : Mod K mg base) (v : Value) : InitOk prog w K mg base 0 (He.ga K d.cls) (iniF K dD.cls) [v] (fun mA => mA = fun (y : Str) => if y = "code" then some v else none) := by
  obtain ⟨h1, h2, h3⟩ := overB_ok ov
  obtain ⟨cc, cda, fd, I⟩ := OD.ini
  obtain ⟨p0, p1, p2, p3, p4, q0, q1, q2, r0, r1, eb, pl, hev⟩ := TD.body
  have hfd := I.fn
  rw [eb] at I
  obtain ⟨cdD, hcd, _⟩ := OD.ec.cd
  refine base_ok O.ec (O.na _ hc) I Md T.sup T.top h2 hcd h3 TD.kc (fun L => hev L _ _ _) (fun s x v => ?_) v
  obtain ⟨oc, od, doc, pm, an, ct, osl, rfl, _⟩ := hfd
  exact .of_eq (TD.bd _ _ _ _ _ _ _ _)
theorem err_sub1 {N a : Str} (T : TopO prog mg) (O : ClsO prog B newId i bmB K d fs) (OD : ClsO prog B newId i bmB K dD gs) (TD : BaseT dD) (TS : Sub1T d N a) (hc : ("code" : Str) ∈ fs) (ha : a ∈ fs) (ov : overB i K d.cls dD.cls = true) : Err prog w K mg base 2 (He.ga K d.cls) N [a] := by
  obtain ⟨h1, h2, h3⟩ := overB_ok ov
  obtain ⟨cc, cda, fd, I⟩ := O.ini
  obtain ⟨p0, p1, p2, p3, p4, q0, q1, q2, j0, r0, r1, eb, pl, hev⟩ := TS.body
  have hfd := I.fn
  rw [eb] at I
  refine err_of O.ec O.an (by show 1 ≤ 1000; decide) fun Md us hl => ?_
  match us, hl with
  | [u], _ =>
    have k := sub1_ok (n := 0) (w := w) O.ec (O.na _ ha) I Md T.sup T.top h1 OD.an.tf OD.an.fn O.an.mC TS.ka TS.nm.1 TS.nm.2.1 (fun L => hev L _ _ _) (fun s x v => ?_) (fun v => base_in (w := w) T O OD TD hc ov Md v) u
    · exact fun A R s x t0 a b c e f g => k A R s x t0 a b c e f fun h' tk dx mA ⟨t, ht⟩ => g h' tk dx mA ⟨t, fun y => by rw [ht]; exact look1 TS.nm.2.2 y⟩
    · obtain ⟨oc, od, doc, pm, an, ct, osl, rfl, _⟩ := hfd
      exact .of_eq (TS.bd _ _ _ _ _ _ _ _)
end
end XO
end PySem
set_option Elab.async false
set_option linter.all false
set_option maxRecDepth 100000
set_option maxHeartbeats 4000000
namespace PySem
namespace XO
open PySem.W PySem.Calls PyProof.Rows PySem.HandSPX L2
structure SaysJ (fa : List He.Fa) (fn : List He.DefD) (ts : List He.Tab) (ins : List IniD) (tf : List He.Defn) (ex : Frag → Bool) (w : World) (h : Heap) (K : Frag) : Prop where
  i : SaysI fa fn ts ins ex w K
  hd : ∀ p ∈ tf, codeHdIn K (He.cT K p).1 (He.cT K p).2 = true
  out : ∀ p ∈ tf, K.lookup (He.cT K p).2 = none
  empty : ∀ p ∈ tf, h.get? (He.cT K p).2 = some { cls := .none, data := .fields #[] }
end XO
end PySem
namespace L2
open PySem PySem.Spec PyProof.Rows
section
variable {P : Program} {w : World} {K : PySem.W.Frag} {mg : Str → Option Value} {base : Heap}
/-- a def that raises nothing, its code object known -/
theorem Fun.okC {p : He.Defn} {x qual : Str} {st : Stmt} {fd : FuncData} {N ps : List Str} {k : Nat} {sp : Sp} (F : Fun K x qual st (He.fAd K p) fd) (S : FnScope N ps (defScope st)) (len : ∀ vs H Q E, sp vs H Q E → vs.length = ps.length)
    (hbody : ∀ (A : Around) (outer : List Env) (s : Shared) (H : Hp) (vs : List V) (Q : VK) (E : XK), Room k (A.deeper (envOfC qual (defScope st) s.heap.objs.size (He.fAd K p) (.ref (He.codeOf K p)))) → sp vs H Q E →
      ∃ t, PSs (cxOf CX0 P w K mg base N qual (defScope st) (He.fAd K p) (.ref (He.codeOf K p)) A outer s H E).nox (defBody st) t ∧ t { nx := fun _ H' => Q .non H', rt := Q } (start N vs) H) : FnOk P w K mg base CX0 (k + 1) (He.fAd K p) fd ps sp := by
  obtain ⟨oc, od, kV, doc, pm, an, cdv, ct, osl, rfl, lk, hcd⟩ := F.ex
  obtain ⟨c, rfl⟩ := He.codeIn_ref hcd
  have e : He.codeOf K p = c := He.codeOf_eq lk rfl
  refine fn_of lk hcd S len fun A outer s H vs Q E hr hsp => ?_
  rw [← e] at hr ⊢
  obtain ⟨t, h, q⟩ := hbody A outer s H vs Q E hr hsp
  exact ⟨t, h.nox, q⟩
end
end L2
set_option Elab.async false
set_option linter.all false
set_option maxRecDepth 100000
set_option maxHeartbeats 4000000
namespace PySem
namespace XO
open PySem.W PySem.Calls PyProof.Rows PySem.HandSPX L2
/-- addresses level by level, no search for what was met -/
def levN (g : Addr → Option Obj) : Nat → List Addr → List Addr
  | 0, f => f
  | n + 1, f => f ++ levN g n (f.flatMap fun a => match g a with
    | some o => (He.refsD o).filter fun b => !(b == mainGlobals || b == cStatics)
    | none => [])
def asN (g : Addr → Option Obj) (n : Nat) : List Addr := levN g n [mainGlobals, cStatics]
abbrev AlN : Type := AlI × Bool
def obsN (n : Nat) (fa : List He.Fa) (fn : List He.DefD) (ts : List He.Tab) (ins : List IniD) (tf : List He.Defn) (ex : Frag → Bool) (g : Addr → Option Obj) : AlN := (obsI fa fn ts ins ex (He.frT g (asN g n)), He.tabsB g tf (He.frT g (asN g n)))
theorem saysN_of {n : Nat} {fa : List He.Fa} {fn : List He.DefD} {ts : List He.Tab} {ins : List IniD} {tf : List He.Defn} {ex : Frag → Bool} {w : World} {h : Heap} (e : obsN n fa fn ts ins tf ex h.get? = (valI fn ts ins w, true)) : SaysJ fa fn ts ins tf ex w h (He.frT h.get? (asN h.get? n)) := by
  have e1 : obsI fa fn ts ins ex (He.frT h.get? (asN h.get? n)) = valI fn ts ins w := congrArg (fun z : AlN => z.1) e
  have h2 : He.tabsB h.get? tf (He.frT h.get? (asN h.get? n)) = true := congrArg (fun z : AlN => z.2) e
  have key : ∀ p ∈ tf, codeHdIn (He.frT h.get? (asN h.get? n)) (He.cT (He.frT h.get? (asN h.get? n)) p).1 (He.cT (He.frT h.get? (asN h.get? n)) p).2 = true ∧ ∃ o, h.get? (He.cT (He.frT h.get? (asN h.get? n)) p).2 = some o ∧ He.emptyTab o = true := fun p hp => by
    have h3 := List.all_eq_true.mp h2 p hp
    rw [Bool.and_eq_true] at h3
    obtain ⟨h3, h4⟩ := h3
    refine ⟨h3, ?_⟩
    cases q : h.get? (He.cT (He.frT h.get? (asN h.get? n)) p).2 with
    | none =>
      rw [q] at h4
      cases h4
    | some o =>
      rw [q] at h4
      exact ⟨o, rfl, h4⟩
  exact ⟨saysI_of e1, fun p hp => (key p hp).1, fun p hp => by
    obtain ⟨_, o, q, z⟩ := key p hp
    exact He.frT_none q z, fun p hp => by
    obtain ⟨_, o, q, z⟩ := key p hp
    rw [q, He.emptyTab_eq z]⟩
def hookN (n : Nat) (fa : List He.Fa) (fn : List He.DefD) (ts : List He.Tab) (ins : List IniD) (tf : List He.Defn) (ex : Frag → Bool) : PySem.W.Hook where
  α := AlN
  obs := fun s => obsN n fa fn ts ins tf ex s.heap.get?
  val := fun w => (valI fn ts ins w, true)
  says := fun w h => ∃ K : Frag, K.In h ∧ SaysJ fa fn ts ins tf ex w h K
  of := fun _ _ e => ⟨_, He.frT_in, saysN_of e⟩
  keeps := fun _ _ _ ⟨K, hK, c⟩ k => ⟨K, PySem.W.Frag.In.keeps hK k, ⟨c.i, c.hd, c.out, fun p hp => k _ _ (c.empty p hp)⟩⟩
theorem obsN_eq {n : Nat} {fa : List He.Fa} {fn : List He.DefD} {ts : List He.Tab} {ins : List IniD} {tf : List He.Defn} {ex : Frag → Bool} {g : Addr → Option Obj} {s : Shared} (h : ∀ a, g a = s.heap.get? a) : obsN n fa fn ts ins tf ex g = (hookN n fa fn ts ins tf ex).obs s := by
  have e : g = s.heap.get? := funext h
  rw [e] <;> rfl
end XO
end PySem
set_option Elab.async false
set_option linter.all false
set_option maxRecDepth 100000
set_option maxHeartbeats 4000000
namespace LW
open PySem PySem.Spec PyProof.Rows L2 EV
def topS (i : Nat) : Stmt := PySem.Challenge.pw_oncethrough_k44_needed_cells.main.body.getD i (.Pass ⟨0, 0, 0, 0⟩)
/-- a def of the text, as a caller takes it -/
structure Gf (K : PySem.W.Frag) (mg : Str → Option Value) (x : Str) (f : Addr) (fd : FuncData) (ps : List Str) : Prop where
  m : mg x = some (.ref f)
  k : PySem.W.keepIn K (.ref f) = true
  b : Binds K fd ps []
abbrev s_box : Stmt := topS 38
abbrev N_box : List Str := ["_law_script", "_law_mixed", "_law_cell"]
theorem sc_box : FnScope N_box ["_law_script"] (defScope s_box) := ⟨rfl, rfl, rfl, by decide +kernel, rfl, by decide +kernel, by decide +kernel⟩
abbrev s_pull : Stmt := topS 39
abbrev N_pull : List Str := ["_law_box_here", "_law_many", "_law_cell", "_law_digit", "_law_twice"]
theorem sc_pull : FnScope N_pull ["_law_box_here", "_law_many"] (defScope s_pull) := ⟨rfl, rfl, rfl, by decide +kernel, rfl, by decide +kernel, by decide +kernel⟩
section
variable {P : Program} {w : World} {K : PySem.W.Frag} {mg : Str → Option Value} {base : Heap}
def spBox (K : PySem.W.Frag) : Sp := fun vs H Q _ => ∃ (a : Addr) (ns : List Int), vs = [.ref a] ∧ SqL K H a (ns.map V.int) ∧
  ∀ (b l : Addr) (m : Int) (ms : List Int) (H' : Hp), Same H H' → H b = none → H' b = some (.lst [.ref l, .int 0, .int 0, .int m, .int 0]) → H' l = some (.lst (ms.map V.int)) → l ≠ b → 0 ≤ m → m < 2147483587 → Q (.ref b) H'
theorem same_upd {H : Hp} {p : Addr} {o : HO} (h : H p = none) : Same H (upd H p o) := fun b x e => by
  rw [upd_ne (ne_of_none e h)]
  exact e
theorem cut_ints (ns : List Int) (lo hi : Option Int) : ∃ ms : List Int, cutV (ns.map V.int) lo hi = ms.map V.int := by
  unfold cutV
  exact ⟨_, by rw [← List.map_drop, ← List.map_take]⟩
theorem ok_box {f : Addr} {fd : FuncData} (F : Fun K "_law_box" "_law_box" s_box f fd) (mi : mg "int" = none) (ml : mg "list" = none) : FnOk P w K mg base CX0 1 f fd ["_law_script"] (spBox K) := by
  refine F.ok sc_box (fun vs H Q E h => ?_) (fun cdv A outer s H vs Q E hr h => ?_)
  · obtain ⟨a, ns, rfl, _⟩ := h
    rfl
  · obtain ⟨a, ns, rfl, hS, q⟩ := h
    refine ⟨_, pss_cons (ps_set (i := 1) sc_box.nd rfl (.inl rfl) pe_int)
      (pss_cons (ps_for PassesOwn.never rfl (pi_list (pe_slice sl_list (pv 0) po_none (po_some pe_int))) (pg_name (i := 2) sc_box.nd rfl (.inl rfl))
        (pss_one (ps_set (i := 1) sc_box.nd rfl (.inl rfl) (pe_op op_mod (pe_callTy call_int1 rfl mi boot_int (pa_cons (pe_op op_add (pe_op op_add (pe_op op_mul (pv 1) pe_int) (pe_op op_mul (pe_op op_mod (pe_callTy call_int1 rfl mi boot_int (pa_cons (pv 2) pa_nil)) pe_int) pe_int)) pe_int) pa_nil)) pe_int))))
      (pss_one (ps_ret (pe_lst (pa_cons (pe_callTy call_list_of rfl ml boot_list (pa_cons (pe_slice sl_list (pv 0) po_none (po_some pe_int)) pa_nil)) (pa_cons pe_int (pa_cons pe_int (pa_cons (pv 1) (pa_cons pe_int pa_nil))))))))), ?_⟩
    obtain ⟨ms, ems⟩ := cut_ints ns none (some 63)
    refine ⟨.ref a, rfl, 63, rfl, a, ns.map V.int, rfl, hS, fun c nc => ?_⟩
    rw [ems]
    have s1 : Same H (upd H c (.lst (ms.map V.int))) := same_upd nc
    refine ⟨c, rfl, ⟨_, .inl (.inl upd_same)⟩, for_list (K := K) (a := c) (xs := ms.map V.int) (fun i σ H' => ∃ (y2 : Option V) (m : Int), σ = [some (.ref a), some (.int m), y2] ∧ 0 ≤ m ∧ m < 2147483587 ∧ H' = upd H c (.lst (ms.map V.int)))
      ⟨none, 12022, rfl, by decide, by decide, rfl⟩ (fun i σ H' _ ⟨_, _, _, _, _, e⟩ => by rw [e]; exact .inl (.inl upd_same)) ?_ ?_⟩
    · rintro i x σ H' hx ⟨y2, m, rfl, m0, m1, rfl⟩
      obtain ⟨z, rfl⟩ : ∃ z, x = V.int z := by
        rw [List.getElem?_map] at hx
        cases e : ms[i]? with
        | none => rw [e] at hx; cases hx
        | some z => rw [e] at hx; exact ⟨z, (Option.some.inj hx).symm⟩
      refine ⟨.int m, rfl, _, _, rfl, rfl, .inr ⟨by decide, by decide⟩, .int z, rfl, .inl ⟨z, rfl, _, _, rfl, rfl, (by decide : (0 : Int) < 1000003), _, _, rfl, rfl, .inr ⟨by decide, by decide⟩, _, _, rfl, rfl, _, _, rfl, rfl, .inl ⟨_, rfl, _, _, rfl, rfl, (by decide : (0 : Int) < 2147483579), ?_⟩⟩⟩
      refine ⟨some (.int z), _, rfl, Int.emod_nonneg _ (by decide), Int.lt_trans (Int.emod_lt_of_pos _ (by decide)) (by decide), rfl⟩
    · rintro σ H' ⟨y2, m, rfl, m0, m1, rfl⟩
      refine ⟨.ref a, rfl, 63, rfl, a, ns.map V.int, rfl, s1.seq hS, fun d nd => ?_⟩
      rw [ems]
      refine ⟨d, _, rfl, .inl (.inl (.inl upd_same)), fun l nl => ?_⟩
      have s2 := same_upd (o := .lst (ms.map V.int)) nd
      have s3 := same_upd (o := .lst (ms.map V.int)) nl
      refine ⟨.int m, rfl, (by show 5 ≤ sizeLine; decide), fun b nb => ?_⟩
      have s4 := same_upd (o := .lst [.ref l, .int 0, .int 0, .int m, .int 0]) nb
      have nlb : l ≠ b := fun e => by rw [← e, upd_same] at nb; cases nb
      have sA := ((s1.trans s2).trans s3)
      exact q b l m ms _ (sA.trans s4) (sA.free nb) upd_same (by rw [upd_ne nlb, upd_same]) nlb m0 m1
end
end LW
set_option Elab.async false
set_option linter.all false
set_option maxRecDepth 100000
set_option maxHeartbeats 4000000
namespace LW
open PySem PySem.Spec PyProof.Rows L2 EV PySem.XO PySem.W
def clsS (i j : Nat) : Stmt := match topS i with
  | .ClassDef _ _ _ body _ _ _ _ _ _ _ => body.getD j (.Pass ⟨0, 0, 0, 0⟩)
  | _ => .Pass ⟨0, 0, 0, 0⟩
abbrev Pr : Program := PySem.Challenge.pw_oncethrough_k44_needed_cells
abbrev st_OnceError : Stmt := clsS 2 0
def in_OnceError : IniD := ⟨"OnceError", "OnceError.__init__", defArgs st_OnceError, defBody st_OnceError, defScope st_OnceError⟩
theorem is_OnceError : IniS in_OnceError := ⟨⟨_, rfl, rfl⟩, rfl, rfl, rfl, rfl, by decide +kernel, rfl, rfl, fun _ _ _ _ => rfl⟩
theorem tx_OnceError : BaseT in_OnceError := ⟨⟨_, _, _, _, _, _, _, _, _, _, rfl, _, fun _ _ _ _ => rfl⟩, rfl, fun _ _ _ _ _ _ _ _ => rfl⟩
def cb_OnceError (K : Frag) : Bool := clsB Pr "ValueError" "ValueError.__new__" bmV K in_OnceError ["code"]
abbrev st_InvalidNumber : Stmt := clsS 3 0
def in_InvalidNumber : IniD := ⟨"InvalidNumber", "InvalidNumber.__init__", defArgs st_InvalidNumber, defBody st_InvalidNumber, defScope st_InvalidNumber⟩
theorem is_InvalidNumber : IniS in_InvalidNumber := ⟨⟨_, rfl, rfl⟩, rfl, rfl, rfl, rfl, by decide +kernel, rfl, rfl, fun _ _ _ _ => rfl⟩
theorem tx_InvalidNumber : Sub1T in_InvalidNumber "InvalidNumber" "given" := ⟨⟨_, _, _, _, _, _, _, _, _, _, _, rfl, _, fun _ _ _ _ => rfl⟩, rfl, ⟨by decide, by decide, by decide⟩, fun _ _ _ _ _ _ _ _ => rfl⟩
def cb_InvalidNumber (K : Frag) : Bool := clsB Pr "ValueError" "ValueError.__new__" bmV K in_InvalidNumber ["code", "given"] && overB "ValueError.__init__" K "InvalidNumber" "OnceError"
abbrev st_InvalidText : Stmt := clsS 4 0
def in_InvalidText : IniD := ⟨"InvalidText", "InvalidText.__init__", defArgs st_InvalidText, defBody st_InvalidText, defScope st_InvalidText⟩
def cb_InvalidText (K : Frag) : Bool := clsB Pr "ValueError" "ValueError.__new__" bmV K in_InvalidText ["code", "line"] && overB "ValueError.__init__" K "InvalidText" "OnceError"
abbrev st_TooMany : Stmt := clsS 5 0
def in_TooMany : IniD := ⟨"TooMany", "TooMany.__init__", defArgs st_TooMany, defBody st_TooMany, defScope st_TooMany⟩
theorem is_TooMany : IniS in_TooMany := ⟨⟨_, rfl, rfl⟩, rfl, rfl, rfl, rfl, by decide +kernel, rfl, rfl, fun _ _ _ _ => rfl⟩
theorem tx_TooMany : Sub1T in_TooMany "TooMany" "most" := ⟨⟨_, _, _, _, _, _, _, _, _, _, _, rfl, _, fun _ _ _ _ => rfl⟩, rfl, ⟨by decide, by decide, by decide⟩, fun _ _ _ _ _ _ _ _ => rfl⟩
def cb_TooMany (K : Frag) : Bool := clsB Pr "ValueError" "ValueError.__new__" bmV K in_TooMany ["code", "most"] && overB "ValueError.__init__" K "TooMany" "OnceError"
abbrev st_InvalidCell : Stmt := clsS 6 0
def in_InvalidCell : IniD := ⟨"InvalidCell", "InvalidCell.__init__", defArgs st_InvalidCell, defBody st_InvalidCell, defScope st_InvalidCell⟩
theorem is_InvalidCell : IniS in_InvalidCell := ⟨⟨_, rfl, rfl⟩, rfl, rfl, rfl, rfl, by decide +kernel, rfl, rfl, fun _ _ _ _ => rfl⟩
theorem tx_InvalidCell : Sub1T in_InvalidCell "InvalidCell" "at" := ⟨⟨_, _, _, _, _, _, _, _, _, _, _, rfl, _, fun _ _ _ _ => rfl⟩, rfl, ⟨by decide, by decide, by decide⟩, fun _ _ _ _ _ _ _ _ => rfl⟩
def cb_InvalidCell (K : Frag) : Bool := clsB Pr "ValueError" "ValueError.__new__" bmV K in_InvalidCell ["code", "at"] && overB "ValueError.__init__" K "InvalidCell" "OnceError"
abbrev st_InvalidStep : Stmt := clsS 7 0
def in_InvalidStep : IniD := ⟨"InvalidStep", "InvalidStep.__init__", defArgs st_InvalidStep, defBody st_InvalidStep, defScope st_InvalidStep⟩
theorem is_InvalidStep : IniS in_InvalidStep := ⟨⟨_, rfl, rfl⟩, rfl, rfl, rfl, rfl, by decide +kernel, rfl, rfl, fun _ _ _ _ => rfl⟩
theorem tx_InvalidStep : Sub1T in_InvalidStep "InvalidStep" "at" := ⟨⟨_, _, _, _, _, _, _, _, _, _, _, rfl, _, fun _ _ _ _ => rfl⟩, rfl, ⟨by decide, by decide, by decide⟩, fun _ _ _ _ _ _ _ _ => rfl⟩
def cb_InvalidStep (K : Frag) : Bool := clsB Pr "ValueError" "ValueError.__new__" bmV K in_InvalidStep ["code", "at"] && overB "ValueError.__init__" K "InvalidStep" "OnceError"
def exL : List (Frag → Bool) := [cb_OnceError, cb_InvalidNumber, cb_InvalidText, cb_TooMany, cb_InvalidCell, cb_InvalidStep]
def exK (K : Frag) : Bool := exL.all fun f => f K
def inL : List IniD := [in_OnceError, in_InvalidNumber, in_InvalidText, in_TooMany, in_InvalidCell, in_InvalidStep]
theorem ex_at {K : Frag} (h : exK K = true) {f : Frag → Bool} (m : f ∈ exL) : f K = true := List.all_eq_true.mp h f m
section
variable {w : World} {K : Frag} {mg : Str → Option Value} {base : Heap}
theorem and1 {a b : Bool} (h : (a && b) = true) : a = true := by simp only [Bool.and_eq_true] at h; exact h.1
theorem and2 {a b : Bool} (h : (a && b) = true) : b = true := by simp only [Bool.and_eq_true] at h; exact h.2
theorem co_OnceError (h : exK K = true) (hi : ∀ d ∈ inL, iniW K d.cls = d.val) : ClsO Pr "ValueError" "ValueError.__new__" "ValueError.__init__" bmV K in_OnceError ["code"] := clsO_of lib_V is_OnceError (hi _ (by simp [inL])) (show clsB _ _ _ _ _ _ _ = true from (ex_at (f := cb_OnceError) h (by simp [exL])))
theorem co_InvalidNumber (h : exK K = true) (hi : ∀ d ∈ inL, iniW K d.cls = d.val) : ClsO Pr "ValueError" "ValueError.__new__" "ValueError.__init__" bmV K in_InvalidNumber ["code", "given"] := clsO_of lib_V is_InvalidNumber (hi _ (by simp [inL])) (show clsB _ _ _ _ _ _ _ = true from and1 (ex_at (f := cb_InvalidNumber) h (by simp [exL])))
theorem er_InvalidNumber (T : TopO Pr mg) (h : exK K = true) (hi : ∀ d ∈ inL, iniW K d.cls = d.val) : Err Pr w K mg base 2 (He.ga K "InvalidNumber") "InvalidNumber" ["given"] := err_sub1 T (co_InvalidNumber h hi) (co_OnceError h hi) tx_OnceError tx_InvalidNumber (by decide) (by decide) (and2 (ex_at (f := cb_InvalidNumber) h (by simp [exL])))
theorem co_TooMany (h : exK K = true) (hi : ∀ d ∈ inL, iniW K d.cls = d.val) : ClsO Pr "ValueError" "ValueError.__new__" "ValueError.__init__" bmV K in_TooMany ["code", "most"] := clsO_of lib_V is_TooMany (hi _ (by simp [inL])) (show clsB _ _ _ _ _ _ _ = true from and1 (ex_at (f := cb_TooMany) h (by simp [exL])))
theorem er_TooMany (T : TopO Pr mg) (h : exK K = true) (hi : ∀ d ∈ inL, iniW K d.cls = d.val) : Err Pr w K mg base 2 (He.ga K "TooMany") "TooMany" ["most"] := err_sub1 T (co_TooMany h hi) (co_OnceError h hi) tx_OnceError tx_TooMany (by decide) (by decide) (and2 (ex_at (f := cb_TooMany) h (by simp [exL])))
theorem co_InvalidCell (h : exK K = true) (hi : ∀ d ∈ inL, iniW K d.cls = d.val) : ClsO Pr "ValueError" "ValueError.__new__" "ValueError.__init__" bmV K in_InvalidCell ["code", "at"] := clsO_of lib_V is_InvalidCell (hi _ (by simp [inL])) (show clsB _ _ _ _ _ _ _ = true from and1 (ex_at (f := cb_InvalidCell) h (by simp [exL])))
theorem er_InvalidCell (T : TopO Pr mg) (h : exK K = true) (hi : ∀ d ∈ inL, iniW K d.cls = d.val) : Err Pr w K mg base 2 (He.ga K "InvalidCell") "InvalidCell" ["at"] := err_sub1 T (co_InvalidCell h hi) (co_OnceError h hi) tx_OnceError tx_InvalidCell (by decide) (by decide) (and2 (ex_at (f := cb_InvalidCell) h (by simp [exL])))
theorem co_InvalidStep (h : exK K = true) (hi : ∀ d ∈ inL, iniW K d.cls = d.val) : ClsO Pr "ValueError" "ValueError.__new__" "ValueError.__init__" bmV K in_InvalidStep ["code", "at"] := clsO_of lib_V is_InvalidStep (hi _ (by simp [inL])) (show clsB _ _ _ _ _ _ _ = true from and1 (ex_at (f := cb_InvalidStep) h (by simp [exL])))
theorem er_InvalidStep (T : TopO Pr mg) (h : exK K = true) (hi : ∀ d ∈ inL, iniW K d.cls = d.val) : Err Pr w K mg base 2 (He.ga K "InvalidStep") "InvalidStep" ["at"] := err_sub1 T (co_InvalidStep h hi) (co_OnceError h hi) tx_OnceError tx_InvalidStep (by decide) (by decide) (and2 (ex_at (f := cb_InvalidStep) h (by simp [exL])))
end
end LW
set_option Elab.async false
set_option linter.all false
set_option maxRecDepth 100000
set_option maxHeartbeats 4000000
namespace EV
open PySem PySem.Spec PyProof.Rows L2
section
variable {X : Cx} {L : Pl} {a : Expr} {m : DE} {pos : Pos}
/-- - e -/
def negD : D → (D → Prop) → Prop
  | .int i, Q => Q (.int (-i))
  | _, _ => False
abbrev dNeg (m : DE) : DE := fun ρ O Q E => m ρ O (fun x O1 => negD x fun d => Q d O1) E
theorem d_neg (h : DPE X L a m) : DPE X L (.UnaryOp .USub a pos) (dNeg m) := by
  refine ⟨fun ρ O Q Q' E E' q hx x => h.mo ρ _ _ _ _ _ (fun d O1 z => ?_) hx x, pe_imp (pe_un un_neg h.run) fun σ H Q ⟨G, O, ρ, g, rs, q⟩ => ?_⟩
  · cases d <;> first | exact q _ _ z | exact z
  · refine up_of h.mo g rs q fun x v O1 G1 H1 q1 s1 r1 => ?_
    cases r1 <;> first
      | exact ⟨_, rfl, q1 _ _ _ s1 (.int _)⟩
      | exact q1.elim
/-- a text among texts -/
def inSD (f : Bool → Bool) : P2
  | .str x, .tup xs, Q => match toSs xs with
    | some ss => Q (.bl (f (ss.any fun z => decide (x = z))))
    | none => False
  | .str x, .lst xs, Q => match toSs xs with
    | some ss => Q (.bl (f (ss.any fun z => decide (x = z))))
    | none => False
  | _, _, _ => False
theorem flat_strs (ss : List Str) : (ss.map V.str).all flatV = true := by
  induction ss with
  | nil => rfl
  | cons a r ih => simp [flatV, ih]
theorem inV_strs (x : Str) (ss : List Str) : inV (.str x) (ss.map V.str) = ss.any fun z => decide (x = z) := by
  induction ss with
  | nil => rfl
  | cons a r ih =>
    have e : eqV (V.str a) (V.str x) = decide (x = a) := by
      by_cases h : x = a
      · subst h; simp [eqV]
      · have h' : ¬ a = x := fun z => h z.symm
        simp [eqV, h, h']
    simp [inV] at ih ⊢
    simp [ih, e]
theorem od_inSf {B : Bo} {op : CmpOp} {f : Bool → Bool} {ng : Bool} (h : OpR X (compareOp op) (rIn X.K ng)) (hf : ∀ b, (if ng = true then !b else b) = f b) : OpD X B (compareOp op) (pu (inSD f)) := by
  refine ⟨fun O x y Q Q' q z => ?_, _, h, fun O G H x y a b Q gd r1 r2 q => ?_⟩
  · dsimp only [pu] at z ⊢; unfold inSD at z ⊢
    split at z
    · split at z
      · exact q _ z
      · exact z
    · split at z
      · exact q _ z
      · exact z
    · exact z
  · dsimp only [pu] at q; unfold inSD at q
    split at q
    · split at q
      · rename_i ss e
        cases r1
        cases r2 with
        | tup s l =>
          have ev := toSs_vs l e
          subst ev
          exact ⟨_, _, rfl, .inr (gd.sub.sqT s), rfl, flat_strs ss, by rw [hf, inV_strs]; exact q _ _ _ (Step.refl gd) (.bl _)⟩
      · exact q.elim
    · split at q
      · rename_i ss e
        cases r1
        cases r2 with
        | lst s l =>
          have ev := toSs_vs l e
          subst ev
          exact ⟨_, _, rfl, .inl (gd.sub.lstL s), rfl, flat_strs ss, by rw [hf, inV_strs]; exact q _ _ _ (Step.refl gd) (.bl _)⟩
      · exact q.elim
    · exact q.elim
theorem od_inS {B : Bo} : OpD X B (compareOp .In) (pu (inSD id)) := od_inSf op_in_seq fun b => rfl
theorem od_notinS {B : Bo} : OpD X B (compareOp .NotIn) (pu (inSD not)) := od_inSf op_notIn_seq fun b => rfl
end
end EV
set_option Elab.async false
set_option linter.all false
set_option maxRecDepth 100000
set_option maxHeartbeats 4000000
namespace EV
open PySem PySem.Spec PyProof.Rows L2
section
variable {X : Cx} {L : Pl} {a b c : Expr} {mA : DA} {pos : Pos}
abbrev dPar3 (i j l : Nat) (mA : DA) : DS := fun A ρ O => mA ρ O (fun ds O1 => match ds with
  | [u, v, w] => A.nx (((ρ.set i (.sh u)).set j (.sh v)).set l (.sh w)) O1
  | _ => False) (fun x O1 => A.ex x ρ O1)
theorem d_par3 {i j l : Nat} {x y z : Str} {px py pz pt : Pos} {kt k2 pt2} (hc : X.calm = true) (hN : X.N.Nodup) (hi : X.N[i]? = some x) (hj : X.N[j]? = some y) (hl : X.N[l]? = some z) (hij : i ≠ j) (hil : i ≠ l) (hjl : j ≠ l)
    (hx : X.env.scope.names.lookup x = some .local) (hy : X.env.scope.names.lookup y = some .local) (hz : X.env.scope.names.lookup z = some .local) (ha : DPA X L [a, b, c] mA)
    (hw : swappedStores [.Tuple [.Name x px, .Name y py, .Name z pz] kt pt] (.Tuple [a, b, c] k2 pt2) X.env = pure (some [x, y, z]))
    (hs : swapsWithSole [.Tuple [.Name x px, .Name y py, .Name z pz] kt pt] (.Tuple [a, b, c] k2 pt2) pos.line X.env = pure false) :
    DPS X L (.Assign [.Tuple [.Name x px, .Name y py, .Name z pz] kt pt] (.Tuple [a, b, c] k2 pt2) pos) (dPar3 i j l mA) := by
  refine ⟨fun A A' ρ O l z => ha.mo _ _ _ _ _ _ (fun d O1 y => ?_) (fun x _ y => l.ex _ _ _ y) z, ps_imp (ps_par3 hc hN hi hj hl hij hil hjl hx hy hz ha.run hw hs) fun Dn σ H ⟨G, O, ρ, g, rs, q⟩ => ?_⟩
  · split at y
    · exact l.nx _ _ y
    · exact y
  · refine upAE ha.mo g rs q fun ds vs O1 G1 H1 q1 s1 r1 => ?_
    split at q1
    · cases r1 with
      | cons r1 r2 =>
        cases r2 with
        | cons r2 r3 =>
          cases r3 with
          | cons r3 r4 =>
            cases r4
            exact ⟨_, _, _, rfl, q1 _ _ _ s1 ((((rs.step s1).set r1).set r2).set r3)⟩
    · exact q1.elim
end
end EV
set_option Elab.async false
set_option linter.all false
set_option maxRecDepth 100000
set_option maxHeartbeats 4000000
namespace PySem
open Sem (wp)
theorem enum_new1 {v : Value} {o : Obj} {H : Heap → Prop} (B : Begins v o H) :
    Meets (Builtin.«enumerate.__new__» ⟨[.type "enumerate", v], []⟩) (fun _ R s => H s.heap ∧
      R (.ok (.ret (.ref (s.heap.push o).objs.size))) { s with heap := (s.heap.push o).push { cls := .type "enumerate", data := .fields #[.none, .bool false, .ref s.heap.objs.size, rawInt 0, .none, .none] } }) :=
  .of_wp fun prog w A R s h => by
    obtain ⟨hp, g, d, tk, os⟩ := s; obtain ⟨h1, h⟩ := h
    have hsub := sub_enumerate
    have q1 : ∀ {A' : Around} {E : Value → Shared → Prop} {Q : Value → Shared → Prop}, Q (.ref hp.objs.size) ⟨hp.push o, g, d, tk, os⟩ → wpAny (model prog w) A' (pyIter v) Q E ⟨hp, g, d, tk, os⟩ :=
      fun q => B.iter prog w _ _ ⟨hp, g, d, tk, os⟩ _ h1 q
    wp_walk using q1
    refine wpAny_stack_any fun st => wpAny_pure ?_
    split
    · rename_i c _ _ _ _ _
      cases (c == Value.type "enumerate")
      · wp_walk using q1
        exact ⟨_, rfl, h⟩
      · wp_walk using q1
        exact ⟨_, rfl, h⟩
    · wp_walk using q1
      exact ⟨_, rfl, h⟩
theorem enum_begins1 {prog : Program} {w : World} {A : Around} {E : Value → Shared → Prop} {s : Shared} {v : Value} {o : Obj} {H : Heap → Prop} {Q : Value → Shared → Prop} (B : Begins v o H) (h1 : H s.heap)
    (h : ∀ h', IsEnum h' (s.heap.objs.size + 1) s.heap.objs.size 0 .none → h'.get? s.heap.objs.size = some o → h'.objs.size = s.heap.objs.size + 2 →
      (∀ b o, s.heap.get? b = some o → h'.get? b = some o) → Q (.ref (s.heap.objs.size + 1)) { s with heap := h' }) :
    wpAny (model prog w) A (call (.type "enumerate") [v]) Q E s := by
  refine callType_new F.called_enumerate (by decide) (F.typeCall_enumerate_1 _) (F.newCall_enumerate_1 _) (fun obj => F.args_object_init_2 obj _) F.entry_enumerate_new (enum_new1 B) ⟨h1, ?_⟩
  have hz : (s.heap.push o).objs.size = s.heap.objs.size + 1 := Heap.size_push ..
  show _ ∧ _
  rw [hz]
  have he : IsEnum ((s.heap.push o).push { cls := .type "enumerate", data := .fields #[.none, .bool false, .ref s.heap.objs.size, rawInt 0, .none, .none] }) (s.heap.objs.size + 1) s.heap.objs.size 0 .none := by
    have := Heap.get?_push_size (s.heap.push o) (o := { cls := .type "enumerate", data := .fields #[.none, .bool false, .ref s.heap.objs.size, rawInt 0, .none, .none] }) rfl
    rw [hz] at this; exact this
  refine ⟨⟨_, he, rfl⟩, h _ he (Heap.get?_push_of_some _ (Heap.get?_push_size _ B.free)) (by rw [Heap.size_push, hz]) fun b o x => Heap.get?_push_of_some _ (Heap.get?_push_of_some _ x)⟩
end PySem
namespace EV
open PySem PySem.Spec PyProof.Rows L2
def Iten (K : PySem.W.Frag) (r : Src) : It :=
  ⟨fun i H => ∃ (xs : List V) (x : V), SrcAt K H r xs ∧ xs[i]? = some x,
    fun i H v H' => ∃ T x, v = .ref T ∧ H T = none ∧ H' = upd H T (.tup [.int (i : Nat), x]) ∧ ∀ xs, SrcAt K H r xs → xs[i]? = some x,
    fun i H => ∃ xs : List V, SrcAt K H r xs ∧ i = xs.length⟩
theorem turn_en {P : Program} {w : World} {K : PySem.W.Frag} {elts : List Expr} {kk : Nat} {tpos : Pos} {e it : Addr} {r : Src} (hne : e ≠ it) (n1 : it ∉ r.fp) (n2 : e ∉ r.fp) :
    Turn P w K (.Tuple elts kk tpos) (Iten K r) [e, it] e (fun i h => (∃ old, IsEnum h e it ((i : Nat) : Int) old) ∧ r.pos it i h) where
  mem := by simp
  obj := fun i h st c hc => by
    obtain ⟨⟨old, he⟩, p⟩ := st
    have e' : c = e ∨ c = it := by simpa using hc
    rcases e' with q | q
    · rw [q]; exact ⟨_, he, fun v q => nomatch q⟩
    · rw [q]; exact Src.pos_obj p
  keep := fun i h h' st k => by
    obtain ⟨⟨old, he⟩, p⟩ := st
    exact ⟨⟨old, k e (by simp) _ he⟩, Src.pos_at p fun o q => k it (by simp) o q⟩
  item := by
    intro X hP hw hK hc i pins s σ H E I hf st hg
    subst hP hw hK
    obtain ⟨he, p⟩ := st
    obtain ⟨xs, x, q1, hx⟩ := hg
    have hh : X.A.in1.handled = none := I.ok.hd hc
    obtain ⟨fp, P1, St, rfl, D, st1, rel, posn⟩ := src_draws I q1 p X.A.in1 hh n1
    have W := WalksT.enumerateD (A := X.A) D e hne (by simp only [List.mem_cons, not_or]; exact ⟨hne, n2⟩) (by simp)
    have hi : i < xs.length := getElem?_lt hx
    refine W.item i s _ E hi ⟨he, st1⟩ fun T vals h' tk hp hT hTup mid keep => ?_
    refine ⟨_, rfl, W.go elts kk tpos i T { s with heap := h', toks := tk } _ E mid fun h2 stn keep2 => ?_⟩
    obtain ⟨t, u, pu, rfl⟩ := hp
    obtain ⟨x', ex, ru⟩ := rel i u pu
    rw [hx] at ex
    cases ex
    have nT : T ∉ [e, it] := W.apart i T h' mid
    have hT2 : h2.IsTuple T #[.int i t, u] := hTup.at fun o q => keep2 T o nT q
    have new : ObjOk X.prog X.w (upd H T (.tup [.int (i : Nat), x])) h2 T (.tup [.int (i : Nat), x]) := ⟨by show 2 ≤ sizeLine; decide, [.int i t, u], .cons ⟨_, rfl⟩ (.cons ru .nil), hT2⟩
    have I1 : Inv X pins σ (upd H T (.tup [.int (i : Nat), x])) { s with heap := h2, toks := tk } := I.turnedNew (t' := tk) (ch := [e, it]) (fun c o hc q => keep2 c o hc (keep c o hc q)) hf hT new
    refine ⟨.ref T, _, I1, rfl, ⟨T, x, rfl, I.hok.fresh hT, rfl, fun l hl => by rw [src_inj I hl q1]; exact hx⟩, ⟨stn.1, posn _ _ stn.2⟩, fun c hcm => ?_⟩
    have hlt : c < s.heap.objs.size := by
      have e' : c = e ∨ c = it := by simpa using hcm
      rcases e' with q | q
      · obtain ⟨old, he⟩ := he
        rw [q]; exact Heap.lt_size he
      · rw [q]; obtain ⟨o, z, _⟩ := Src.pos_obj p; exact Heap.lt_size z
    rw [upd_ne (Nat.ne_of_lt (Nat.lt_of_lt_of_le hlt hT))]
    exact (hf c hcm).1
  done := by
    intro X hP hw hK hc i pins s σ H E I hf st hg
    subst hP hw hK
    obtain ⟨he, p⟩ := st
    obtain ⟨xs, q1, hend⟩ := hg
    have hh : X.A.in1.handled = none := I.ok.hd hc
    obtain ⟨fp, P1, St, rfl, D, st1, rel, posn⟩ := src_draws I q1 p X.A.in1 hh n1
    have W := WalksT.enumerateD (A := X.A) D e hne (by simp only [List.mem_cons, not_or]; exact ⟨hne, n2⟩) (by simp)
    subst hend
    exact W.done s _ E ⟨he, st1⟩ fun h' tk keep => ⟨rfl, I.turnedL (t' := tk) (ch := [e, it]) (fun c o hc q => keep c o hc q) hf⟩
  self := fun A i s Q E st h => let ⟨⟨_, he⟩, _⟩ := st; wpAny_pyIter_enum he h
section
variable {X : Cx} {L : Pl} {e : Expr} {mA : DA} {pos p : Pos}
def iEn (K : PySem.W.Frag) (ta : TA) : TI := fun σ H R => ta σ H fun vs H1 => ∃ v r, vs = [v] ∧ SrcV v r ∧ (∃ xs, SrcAt K H1 r xs) ∧ R (Iten K r) H1
theorem pi_en {ta : TA} {tpos : Pos} {elts : List Expr} {kk : Nat} (hg : Gl X "enumerate") (hm : X.mg "enumerate" = none) (ha : PA X [e] ta) (hs : starEach [e] X.env = [(false, eval e X.env)]) :
    PI X (.Tuple elts kk tpos) (.Call (.Name "enumerate" p) [e] [] pos) (iEn X.K ta) := by
  refine ⟨fun pins s σ H R I h => ?_⟩
  refine Call_ (ld_blt I hg hm boot_enumerate (PyProof.Rows.callWith_type1 (thn (ha.run pos pins s σ H _ I h) fun us s1 ⟨vs, H1, I1, r1, q1⟩ => ?_) hs rfl))
  obtain ⟨v, c, ex, k1, ⟨xs, a1⟩, q⟩ := q1
  subst ex
  cases r1 with
  | cons r rr =>
    cases rr
    obtain ⟨o1, Hc1, B1, h1, p1, f1⟩ := src_begins I1 k1 a1 r
    refine enum_begins1 B1 h1 fun h' he g1 hsz hk => wpAny_pyIter_enum he ?_
    have nf : ∀ {fp : List Addr} {c : Addr}, (∀ b ∈ fp, b < s1.heap.objs.size) → s1.heap.objs.size ≤ c → c ∉ fp := fun hf hc z => absurd (Nat.lt_of_lt_of_le (hf _ z) hc) (Nat.lt_irrefl _)
    have I2 : Inv X pins σ H1 { s1 with heap := h' } := I1.kept (t' := s1.toks) hk
    refine ⟨s1.heap.objs.size + 1, [s1.heap.objs.size + 1, s1.heap.objs.size], _, _, H1, rfl, I2, turn_en (Nat.succ_ne_self _) (nf f1 (Nat.le_refl _)) (nf f1 (Nat.le_succ _)), ⟨⟨.none, he⟩, p1 _ _ g1⟩, fun b hb => ?_, q⟩
    have e' : b = s1.heap.objs.size + 1 ∨ b = s1.heap.objs.size := by simpa using hb
    have hle : s1.heap.objs.size ≤ b := by
      rcases e' with z | z
      · rw [z]; exact Nat.le_add_right _ _
      · rw [z]; exact Nat.le_refl _
    exact I1.fpOk hle (I1.hok.fresh hle)
/-- the pairs of enumerate -/
def enumL (xs : List D) : List D := xs.zipIdx.map fun p => .tup [.int p.2, p.1]
def enumD : List D → (IL → Prop) → Prop
  | [x], Q => itemsP x fun xs => Q (tt1, enumL xs)
  | _, _ => False
theorem enumD_mo {x : List D} {Q Q' : IL → Prop} (h : ∀ d, Q d → Q' d) (z : enumD x Q) : enumD x Q' := by
  unfold enumD at z ⊢
  split at z
  · exact itemsP_mo (fun _ w => h _ w) z
  · exact z
abbrev dEnum (mA : DA) : DI := fun ρ O Q E => mA ρ O (fun xs O1 => enumD xs fun l => Q l O1) E
theorem itd_en {K : PySem.W.Frag} {B : Bo} {G0 : Hp} {c : Src} {xs : List V} {ds : List D} (r1 : RpL K G0 xs ds) (a1 : ∀ H, Sub G0 H → SrcAt K H c xs) : ItD K B G0 (Iten K c) (tt1, enumL ds) := fun i O G H g sb _ => by
  have sH := sb.trans g.sub
  have hl : (enumL ds).length = xs.length := by simp [enumL, r1.length]
  refine ⟨fun d e => ?_, fun (h : i = (enumL ds).length) => ⟨xs, a1 H sH, by rw [← hl]; exact h⟩⟩
  have e : (enumL ds)[i]? = some d := e
  unfold enumL at e
  rw [List.getElem?_map, List.getElem?_zipIdx] at e
  cases e1 : ds[i]? with
  | none => rw [e1] at e; cases e
  | some d1 =>
    rw [e1] at e
    simp only [Option.map_some, Option.some.injEq, Nat.zero_add] at e
    subst e
    obtain ⟨v1, f1, q1⟩ := r1.get e1
    refine ⟨⟨xs, v1, a1 H sH, f1⟩, fun x H' y => ?_⟩
    obtain ⟨T, x', rfl, nT, rfl, g1⟩ := y
    have h1 := g1 xs (a1 H sH)
    rw [f1] at h1
    cases h1
    have st := Step.new (o := .tup [.int (i : Nat), v1]) g nT
    exact ⟨_, st, new_tup g nT (.cons (.int _) (.cons (q1.mono sb) .nil))⟩
theorem d_enum {tpos : Pos} {elts : List Expr} {kk : Nat} (hg : Gl X "enumerate") (hm : X.mg "enumerate" = none) (ha : DPA X L [e] mA) (hs : starEach [e] X.env = [(false, eval e X.env)]) :
    DPI X L (.Tuple elts kk tpos) (.Call (.Name "enumerate" p) [e] [] pos) (dEnum mA) := by
  refine ⟨fun ρ O Q Q' E E' q hx x => ha.mo ρ _ _ _ _ _ (fun _ _ z => enumD_mo (fun _ => q _ _) z) hx x, pi_imp (pi_en hg hm ha.run hs) fun σ H Q ⟨G, O, ρ, g, rs, q⟩ => ?_⟩
  refine upA_of ha.mo g rs q fun ds vs O1 G1 H1 q1 s1 r1 => ?_
  unfold enumD at q1
  split at q1
  · cases r1 with
    | cons r1 r2 =>
      cases r2
      obtain ⟨c, xs, ds', k1, rl, a1, q1⟩ := src_of r1 q1
      exact ⟨_, c, rfl, k1, ⟨xs, a1 _ s1.good.sub⟩, q1 _ _ _ s1 (itd_en rl a1)⟩
  · exact q1.elim
end
end EV
set_option Elab.async false
set_option linter.all false
set_option maxRecDepth 100000
set_option maxHeartbeats 4000000
namespace EV
open PySem PySem.Spec PyProof.Rows L2
def scV : D → Option V
  | .str x => some (.str x)
  | .int i => some (.int i)
  | .bl b => some (.bl b)
  | .non => some .non
  | _ => none
theorem scV_rp {K : PySem.W.Frag} {G : Hp} {d : D} {v : V} (h : scV d = some v) : Rp K G v d := by
  cases d <;> simp [scV] at h <;> subst h
  · exact .non
  · exact .bl _
  · exact .int _
  · exact .str _
def entB : List DictEntry → List (Str × D) → Bool
  | [], [] => true
  | e :: es, (k, d) :: r => (match e.key with
    | .str x _ => decide (x = k)
    | _ => false) && ((match scV d with
    | some v => He.relB v e.val
    | none => false) && entB es r)
  | _, _ => false
def tabB (K : PySem.W.Frag) (a : Addr) (kvs : List (Str × D)) : Bool := match K.lookup a with
  | some ⟨_, _, .dict es _, _⟩ => entB es.toList kvs
  | _ => false
theorem entB_ok : ∀ {l : List DictEntry} {kvs : List (Str × D)}, entB l kvs = true → ∀ z : Str, (match kvs.lookup z with
    | some d => ∃ v u, scV d = some v ∧ (l.find? fun e => Value.isStrOf z e.key).map (·.val) = some u ∧ RelV v u
    | none => (l.find? fun e => Value.isStrOf z e.key).map (·.val) = none)
  | [], [], _, z => rfl
  | e :: es, (k, d) :: r, h, z => by
    unfold entB at h
    simp only [Bool.and_eq_true] at h
    obtain ⟨h1, h2, h3⟩ := h
    split at h1
    · rename_i x t ek
      have ex : x = k := of_decide_eq_true h1
      subst ex
      have hs : Value.isStrOf z e.key = decide (x = z) := by rw [ek]; by_cases q : x = z <;> simp [Value.isStrOf, q]
      rw [List.lookup_cons, List.find?_cons, hs]
      by_cases q : x = z
      · subst q
        simp only [beq_self_eq_true, decide_true, Option.map_some]
        split at h2
        · rename_i v ev
          exact ⟨v, e.val, ev, rfl, He.relB_ok h2⟩
        · cases h2
      · have q1 : (z == x) = false := by simpa using fun y => q y.symm
        simp only [q1, decide_eq_false q]
        exact entB_ok h3 z
    · cases h1
  | [], _ :: _, h, _ => by cases h
  | _ :: _, [], h, _ => by cases h
structure TabK (K : PySem.W.Frag) (w : World) (a : Addr) (kvs : List (Str × D)) : Prop where
  ex : ∃ es n, KDict K w a es n ∧ ∀ z : Str, (match kvs.lookup z with
    | some d => ∃ v u, scV d = some v ∧ findBy Value.isStrOf es z = some u ∧ RelV v u
    | none => findBy Value.isStrOf es z = none)
theorem tabK_of {K : PySem.W.Frag} {w : World} {a : Addr} {kvs : List (Str × D)} {es : Array DictEntry} {n : Nat} (D : KDict K w a es n) (h : tabB K a kvs = true) : TabK K w a kvs := by
  unfold tabB at h
  rw [D.at_] at h
  have h : entB es.toList kvs = true := h
  refine ⟨es, n, D, fun z => ?_⟩
  have := entB_ok h z
  have e : findBy Value.isStrOf es z = (es.toList.find? fun e => Value.isStrOf z e.key).map (·.val) := by
    obtain ⟨l⟩ := es
    unfold findBy
    rw [List.find?_toArray]
  rw [e]
  exact this
section
variable {X : Cx} {L : Pl} {B : Bo} {a b : Expr} {ma mb : DE} {pos : Pos}
/-- x in t, t a dict of the text at ad -/
def inK (ad : Addr) (kvs : List (Str × D)) (f : Bool → Bool) : P2
  | .str z, .opq (.ref p), Q => p = ad ∧ Q (.bl (f (kvs.lookup z).isSome))
  | _, _, _ => False
theorem inK_mo {ad : Addr} {kvs : List (Str × D)} {f : Bool → Bool} : MoO (pu (inK ad kvs f)) := fun O x y Q Q' h z => by
  dsimp only [pu] at z ⊢; unfold inK at z ⊢
  split at z
  · exact ⟨z.1, h _ z.2⟩
  · exact z
theorem find_some {K : PySem.W.Frag} {w : World} {ad : Addr} {kvs : List (Str × D)} {es : Array DictEntry} {z : Str} (h : match kvs.lookup z with
    | some d => ∃ v u, scV d = some v ∧ findBy Value.isStrOf es z = some u ∧ RelV v u
    | none => findBy Value.isStrOf es z = none) : (findBy Value.isStrOf es z).isSome = (kvs.lookup z).isSome := by
  cases e : kvs.lookup z with
  | none => rw [e] at h; rw [h]; rfl
  | some d => rw [e] at h; obtain ⟨v, u, _, h, _⟩ := h; rw [h]; rfl
theorem od_inK {ad : Addr} {kvs : List (Str × D)} (T : TabK X.K X.w ad kvs) : OpD X B (compareOp .In) (pu (inK ad kvs id)) := by
  obtain ⟨es, n, KD, hf⟩ := T.ex
  refine ⟨inK_mo, fun x y H Q => ∃ z, x = .str z ∧ y = .ref ad ∧ Q (.bl (kvs.lookup z).isSome) H, ?_, fun O G H x y a b Q gd r1 r2 q => ?_⟩
  · intro pins s σ H x y v u Q I rx ry h
    obtain ⟨z, rfl, rfl, q⟩ := h
    obtain ⟨t, rfl⟩ := rx
    cases ry
    refine wpAny_in_of (PySem.strKind_is X.prog X.w z t) KD.low (PySem.W.mapOf_K (prog := X.prog) I.kIn KD.at_ KD.lit) ?_
    rw [find_some (K := X.K) (w := X.w) (ad := ad) (hf z)]
    exact ⟨.bl _, H, I.tok _, rfl, q⟩
  · dsimp only [pu] at q; unfold inK at q
    split at q
    · obtain ⟨rfl, q⟩ := q
      cases r1
      cases r2
      exact ⟨_, rfl, rfl, q _ _ _ (Step.refl gd) (.bl _)⟩
    · exact q.elim
theorem od_notinK {ad : Addr} {kvs : List (Str × D)} (T : TabK X.K X.w ad kvs) : OpD X B (compareOp .NotIn) (pu (inK ad kvs not)) := by
  obtain ⟨es, n, KD, hf⟩ := T.ex
  refine ⟨inK_mo, fun x y H Q => ∃ z, x = .str z ∧ y = .ref ad ∧ Q (.bl (!(kvs.lookup z).isSome)) H, ?_, fun O G H x y a b Q gd r1 r2 q => ?_⟩
  · intro pins s σ H x y v u Q I rx ry h
    obtain ⟨z, rfl, rfl, q⟩ := h
    obtain ⟨t, rfl⟩ := rx
    cases ry
    refine wpAny_notIn_of (PySem.strKind_is X.prog X.w z t) KD.low (PySem.W.mapOf_K (prog := X.prog) I.kIn KD.at_ KD.lit) ?_
    rw [find_some (K := X.K) (w := X.w) (ad := ad) (hf z)]
    exact ⟨.bl _, H, I.tok _, rfl, q⟩
  · dsimp only [pu] at q; unfold inK at q
    split at q
    · obtain ⟨rfl, q⟩ := q
      cases r1
      cases r2
      exact ⟨_, rfl, rfl, q _ _ _ (Step.refl gd) (.bl _)⟩
    · exact q.elim
/-- t[x] -/
def ixK (ad : Addr) (kvs : List (Str × D)) : P2
  | .opq (.ref p), .str z, Q => p = ad ∧ match kvs.lookup z with
    | some d => Q d
    | none => False
  | _, _, _ => False
theorem d_ixK {ad : Addr} {kvs : List (Str × D)} (T : TabK X.K X.w ad kvs) (ha : DPE X L a ma) (hb : DPE X L b mb) (hs : NoSl b) : DPE X L (.Subscript a b pos) (dOp (pu (ixK ad kvs)) ma mb) := by
  obtain ⟨es, n, KD, hf⟩ := T.ex
  have mo : MoO (pu (ixK ad kvs)) := fun O x y Q Q' h z => by
    dsimp only [pu] at z ⊢; unfold ixK at z ⊢
    split at z
    · refine ⟨z.1, ?_⟩
      obtain ⟨_, z⟩ := z
      split at z
      · exact h _ z
      · exact z
    · exact z
  have hP : PE X (.Subscript a b pos) (tOp (fun x y H Q => ∃ z d v, x = .ref ad ∧ y = .str z ∧ kvs.lookup z = some d ∧ scV d = some v ∧ Q v H) (up X.K L.B L.W ma) (up X.K L.B L.W mb)) := by
    refine ⟨fun pins s σ H Q I h => ?_⟩
    refine subD_of PySem.F.slot_dict_getitem.lookup hs (thn (ha.run.run pins s σ H _ I h) fun u s1 ⟨x, H1, I1, rx, q1⟩ => thn (hb.run.run pins s1 σ H1 _ I1 q1) fun iv s2 ⟨y, H2, I2, ry, z, d, v, ex, ey, el, ev, q2⟩ => ?_)
    subst ex ey
    obtain rfl : u = Value.ref ad := rx
    obtain ⟨t, rfl⟩ := ry
    have hz := hf z
    rw [el] at hz
    obtain ⟨v', u, e1, e2, e3⟩ := hz
    rw [ev] at e1; cases e1
    exact ⟨kd_type KD I2, wpAny_getItem_of (PySem.strKind_is X.prog X.w z t) (PySem.W.mapOf_K (prog := X.prog) I2.kIn KD.at_ KD.lit) e2 ⟨v, H2, I2.tok _, e3, q2⟩⟩
  have hrun : RunO X.K L.B (fun x y H Q => ∃ z d v, x = .ref ad ∧ y = .str z ∧ kvs.lookup z = some d ∧ scV d = some v ∧ Q v H) (pu (ixK ad kvs)) := fun O G H x y a b Q gd r1 r2 q => by
    dsimp only [pu] at q; unfold ixK at q
    split at q
    · rename_i p z
      obtain ⟨rfl, q⟩ := q
      cases r1
      cases r2
      have hz := hf z
      cases ed : kvs.lookup z with
      | none => rw [ed] at q; exact q.elim
      | some d =>
        rw [ed] at q hz
        obtain ⟨v, u, e1, _⟩ := hz
        exact ⟨z, d, v, rfl, rfl, ed, e1, q _ _ _ (Step.refl gd) (scV_rp e1)⟩
    · exact q.elim
  exact ⟨mo_op mo ha.mo hb.mo, pe_imp hP fun σ H Q q => run_op hrun mo ha.mo hb.mo q⟩
/-- a dict of the text, by its name -/
theorem d_gdict {x : Str} {ad : Addr} (hg : Gl X x) (hm : X.mg x = some (.ref ad)) (hd : (x == ("__debug__" : Str)) = false) : DPE X L (.Name x pos) (dC (.opq (.ref ad))) := d_c (v := .ref ad) (pe_glob hg hm rfl hd) fun _ => .opq _
def itemsB : List Value → List D → Bool
  | [], [] => true
  | u :: us, d :: ds => (match scV d with
    | some v => He.relB v u
    | none => false) && itemsB us ds
  | _, _ => false
def gtupB (K : PySem.W.Frag) (a : Addr) (ds : List D) : Bool := match K.lookup a with
  | some ⟨.type c, _, .seq its _, _⟩ => decide (c = "tuple") && (decide (its.size ≤ sizeLine) && itemsB its.toList ds)
  | _ => false
theorem itemsB_ok {K : PySem.W.Frag} {G : Hp} : ∀ {us : List Value} {ds : List D}, itemsB us ds = true → ∃ vs, Vals vs us ∧ RpL K G vs ds
  | [], [], _ => ⟨[], .nil, .nil⟩
  | u :: us, d :: ds, h => by
    unfold itemsB at h
    simp only [Bool.and_eq_true] at h
    obtain ⟨h1, h2⟩ := h
    obtain ⟨vs, a, b⟩ := itemsB_ok (K := K) (G := G) h2
    split at h1
    · rename_i v ev
      exact ⟨v :: vs, .cons (He.relB_ok h1) a, .cons (scV_rp ev) b⟩
    · cases h1
  | [], _ :: _, h => by cases h
  | _ :: _, [], h => by cases h
theorem gtup_rp {K : PySem.W.Frag} {a : Addr} {ds : List D} (h : gtupB K a ds = true) (G : Hp) : Rp K G (.ref a) (.tup ds) := by
  unfold gtupB at h
  split at h
  · rename_i c od its n sl e
    simp only [Bool.and_eq_true] at h
    obtain ⟨h1, h2, h3⟩ := h
    have ec : c = "tuple" := of_decide_eq_true h1
    subst ec
    obtain ⟨vs, a1, b1⟩ := itemsB_ok (K := K) (G := G) h3
    exact .tup (.inr ⟨_, its, n, e, rfl, rfl, of_decide_eq_true h2, a1⟩) b1
  · cases h
theorem d_gtup {x : Str} {ad : Addr} {ds : List D} (h : gtupB X.K ad ds = true) (hg : Gl X x) (hm : X.mg x = some (.ref ad)) (hd : (x == ("__debug__" : Str)) = false) : DPE X L (.Name x pos) (dC (.tup ds)) := d_c (v := .ref ad) (pe_glob hg hm rfl hd) fun G => gtup_rp h G
end
end EV
set_option Elab.async false
set_option linter.all false
set_option maxRecDepth 100000
set_option maxHeartbeats 0
namespace LW
open PySem PySem.Spec PyProof.Rows L2 EV PySem.XO PySem.W
abbrev FnP (K : PySem.W.Frag) (x : Str) (st : Stmt) (f : Addr) (fd : FuncData) : Prop := FunD K x x (defArgs st) (defBody st) (defScope st) [] [] f fd
theorem fun_of {K : PySem.W.Frag} {x q : Str} {st : Stmt} {kws : List (Str × V)} {f : Addr} {fd : FuncData} (F : FunD K x q (defArgs st) (defBody st) (defScope st) [] kws f fd) : Fun K x q st f fd := by
  obtain ⟨oc, od, dV, kV, doc, pm, an, cdv, ct, osl, e, lk, hcd, hD, hK⟩ := F.ex
  rcases hD with ⟨_, rfl⟩ | ⟨e, _⟩
  · exact ⟨⟨oc, od, kV, doc, pm, an, cdv, ct, osl, e, lk, hcd⟩, F.kp⟩
  · exact absurd rfl e
theorem gf_of {K : PySem.W.Frag} {mg : Str → Option Value} {x : Str} {st : Stmt} {f : Addr} {fd : FuncData} {ps : List Str} (F : FnP K x st f fd) (m : mg x = some (.ref f)) (b : Binds K fd ps []) : Gf K mg x f fd ps := ⟨m, F.kp, b⟩
def dd (x : Str) (st : Stmt) : He.DefD := ⟨(x, none), x, x, defArgs st, defBody st, defScope st, [], []⟩
def dm (c x : Str) (q : Str) (st : Stmt) : He.DefD := ⟨(c, some x), x, q, defArgs st, defBody st, defScope st, [], []⟩
def dmk (c x : Str) (q : Str) (st : Stmt) (kws : List (Str × He.Dv)) : He.DefD := ⟨(c, some x), x, q, defArgs st, defBody st, defScope st, [], kws⟩
def formsTd : List (Str × D) := [("read", .str "c"), ("zero", .str "c"), ("top", .str "c"), ("up", .str "c"), ("copy", .str "cc"), ("same", .str "ccj"), ("less", .str "ccj"), ("has", .str "tcj"), ("link", .str "tccj"), ("jump", .str "j"), ("refuse", .str ""), ("end", .str "")]
def placesTd : List (Str × D) := [("has", .int 1), ("link", .int 2)]
def lastTd : List D := [.str "jump", .str "refuse", .str "end"]
def testsTd : List D := [.str "same", .str "less", .str "has", .str "link"]
def ts : List He.Tab := [(fun K => He.ga K "FORMS", formsTd.map (·.1)), (fun K => He.ga K "PLACES", placesTd.map (·.1))]
def tf : List He.Defn := []
def exT (K : Frag) : Bool := exK K && (tabB K (He.ga K "FORMS") formsTd && (tabB K (He.ga K "PLACES") placesTd && (gtupB K (He.ga K "LAST") lastTd && (gtupB K (He.ga K "TESTS") testsTd))))
def fn : List He.DefD := [dd "_law_box" (topS 38), dd "_law_pull" (topS 39), dd "_law_of" (topS 40), dd "_law_words" (topS 41), dd "_law_same" (topS 42), dd "_law_step" (topS 43), dd "_law_plan" (topS 44), dd "_law_made" (topS 45), dd "_law_following" (topS 46), dd "_law_used" (topS 47), dd "_law_sets" (topS 48), dd "_law_needed" (topS 49), dd "law" (topS 50), dd "is_name" (topS 13), dd "is_number" (topS 14), dd "is_step" (topS 24), dd "check_rows" (topS 26), dmk "Reader" "__init__" "Reader.__init__" (clsS 27 1) [("inputs", .int 0)], dd "cells_of" (topS 25), dd "following" (topS 32), dd "used_cells" (topS 33), dd "set_cells" (topS 34), dd "needs" (topS 35), dd "needed" (topS 36)]
def fa : List He.Fa := ([.glo "_law_box", .glo "_law_pull", .glo "_law_of", .glo "_law_words", .glo "_law_same", .glo "_law_step", .glo "_law_plan", .glo "_law_made", .glo "_law_following", .glo "_law_used", .glo "_law_sets", .glo "_law_needed"] : List He.Fa) ++ ([.glo "law", .glo "is_name", .glo "is_number", .glo "is_step", .glo "check_rows", .glo "cells_of", .glo "following", .glo "used_cells", .glo "set_cells", .glo "needs", .glo "needed", .glo "OnceError"] : List He.Fa) ++ ([.glo "InvalidNumber", .glo "InvalidText", .glo "TooMany", .glo "InvalidCell", .glo "InvalidStep", .glo "Reader", .glo "FORMS", .glo "PLACES", .glo "LAST", .glo "TESTS", .free "isinstance", .free "str"] : List He.Fa) ++ ([.free "len", .free "all", .free "int", .free "bool", .free "list", .free "tuple", .free "zip", .free "abs", .free "super", .free "range", .free "enumerate", .free "dict"] : List He.Fa) ++ ([.free "sorted", .int "LONGEST_NAME" 6, .int "MOST_CELLS" 300, .int "MOST_ROWS" 10000, .int "MOST_RANGE" 10000, .str "LETTERS" "abcdefghijklmnopqrstuvwxyz", .cls "Reader", .mkr "Reader", .noat "Reader" "cells", .noat "Reader" "rows", .noat "Reader" "inputs"] : List He.Fa)
abbrev RwL : PySem.W.OpenRow := PySem.W.OpenLaw.row PySem.Challenge.rw_oncethrough_k44_needed_cells
abbrev hk : PySem.W.Hook := hookN 6 fa fn ts inL tf exT
def ob (s : PySem.W.SharedT) : AlN := obsN 6 fa fn ts inL tf exT (HandSHeadRun.getT s)
theorem ob_eq (s : PySem.W.SharedT) : ob s = hk.obs s.abs := obsN_eq (HandSHeadRun.getT_eq s)
def loose : List PySem.Str := (["_wall", "OnceError", "InvalidNumber", "InvalidText", "TooMany", "InvalidCell", "InvalidStep", "LETTERS", "DIGITS", "LONGEST_NAME", "MOST_DIGITS", "is_name"] : List PySem.Str) ++ (["is_number", "number_in", "joined", "MOST_CELLS", "MOST_ROWS", "MOST_RANGE", "FORMS", "PLACES", "LAST", "is_step", "cells_of", "check_rows"] : List PySem.Str) ++ (["Reader", "read_cells", "read_step", "TESTS", "following", "used_cells", "set_cells", "needs", "needed", "_law_box", "_law_pull", "_law_of"] : List PySem.Str) ++ (["_law_words", "_law_same", "_law_step", "_law_plan", "_law_made", "_law_following", "_law_used", "_law_sets", "_law_needed"] : List PySem.Str)
theorem map_both {α β γ δ : Type} {x : Option α} {f : α → β} {f2 : α → γ} {g : α → δ} {a : β} {b : γ} {c : δ} (h1 : x.map (fun s => (f s, f2 s)) = some (a, b)) (h2 : x.map g = some c) : x.map (fun s => (f s, f2 s, g s)) = some (a, b, c) := by
  cases x with
  | none => cases h1
  | some s =>
    have e1 := Option.some.inj h1
    have e2 := Option.some.inj h2
    have e3 := congrArg Prod.fst e1
    have e4 := congrArg Prod.snd e1
    show some (f s, f2 s, g s) = some (a, b, c)
    rw [show f s = a from e3, show f2 s = b from e4, show g s = c from e2]
theorem lkRF (w : World) (os : OsState) : (HandSHeadRun.endF (HandSHeadRun.stepQ (HandSHeadRun.denQ HandSHeadRun.tabQ) RwL.prog (w.withFollow "special-get-raises" false)) 10000 RwL.prog (w.withFollow "special-get-raises" false) os).map (fun s => (HandSHeadRun.looksF RwL.prog (boot_heap (w.withFollow "special-get-raises" false).params) s.abs, HandSHeadRun.seenQ (PySem.W.view RwL.prog [50]) loose (importedModules RwL.prog.main.body) (fun s => xlAt (PySem.W.view RwL.prog [50]) [] s && recOk RwL.toRowW.records s) s.abs)) = some (true, openGood (PySem.W.view RwL.prog [50]) loose) := by
  kernel_rfl
theorem obRF (w : World) (os : OsState) : (HandSHeadRun.endF (HandSHeadRun.stepQ (HandSHeadRun.denQ HandSHeadRun.tabQ) RwL.prog (w.withFollow "special-get-raises" false)) 10000 RwL.prog (w.withFollow "special-get-raises" false) os).map ob = some (hk.val (w.withFollow "special-get-raises" false)) := by
  kernel_rfl
theorem runZF (w : World) : HandSHeadRun.RunEq RwL (PySem.W.view RwL.prog [50]) hk ob 10000 loose (w.withFollow "special-get-raises" false) := fun os => map_both (lkRF w os) (obRF w os)
theorem lkRT (w : World) (os : OsState) : (HandSHeadRun.endF (HandSHeadRun.stepQ (HandSHeadRun.denQ HandSHeadRun.tabQ) RwL.prog (w.withFollow "special-get-raises" true)) 10000 RwL.prog (w.withFollow "special-get-raises" true) os).map (fun s => (HandSHeadRun.looksF RwL.prog (boot_heap (w.withFollow "special-get-raises" true).params) s.abs, HandSHeadRun.seenQ (PySem.W.view RwL.prog [50]) loose (importedModules RwL.prog.main.body) (fun s => xlAt (PySem.W.view RwL.prog [50]) [] s && recOk RwL.toRowW.records s) s.abs)) = some (true, openGood (PySem.W.view RwL.prog [50]) loose) := by
  kernel_rfl
theorem obRT (w : World) (os : OsState) : (HandSHeadRun.endF (HandSHeadRun.stepQ (HandSHeadRun.denQ HandSHeadRun.tabQ) RwL.prog (w.withFollow "special-get-raises" true)) 10000 RwL.prog (w.withFollow "special-get-raises" true) os).map ob = some (hk.val (w.withFollow "special-get-raises" true)) := by
  kernel_rfl
theorem runZT (w : World) : HandSHeadRun.RunEq RwL (PySem.W.view RwL.prog [50]) hk ob 10000 loose (w.withFollow "special-get-raises" true) := fun os => map_both (lkRT w os) (obRT w os)
theorem runZB (b : Bool) (w : World) : HandSHeadRun.RunEq RwL (PySem.W.view RwL.prog [50]) hk ob 10000 loose (w.withFollow "special-get-raises" b) := by
  cases b
  · exact runZF w
  · exact runZT w
theorem run (w : World) : HandSHeadRun.RunEq RwL (PySem.W.view RwL.prog [50]) hk ob 10000 loose w := by
  have h := runZB (w.params.followText "special-get-raises") w
  rwa [World.withFollow_self] at h
end LW
set_option Elab.async false
set_option linter.all false
set_option maxRecDepth 100000
set_option maxHeartbeats 4000000
namespace LW
open PySem PySem.Spec PyProof.Rows L2 EV
abbrev bx (l : Addr) (i r m c : Int) : HO := .lst [.ref l, .int i, .int r, .int m, .int c]
theorem at0 {l : Addr} {i r m c : Int} : atI [V.ref l, .int i, .int r, .int m, .int c] 0 = some (.ref l) := rfl
theorem at1 {l : Addr} {i r m c : Int} : atI [V.ref l, .int i, .int r, .int m, .int c] 1 = some (.int i) := rfl
theorem at2 {l : Addr} {i r m c : Int} : atI [V.ref l, .int i, .int r, .int m, .int c] 2 = some (.int r) := rfl
theorem at3 {l : Addr} {i r m c : Int} : atI [V.ref l, .int i, .int r, .int m, .int c] 3 = some (.int m) := rfl
theorem at4 {l : Addr} {i r m c : Int} : atI [V.ref l, .int i, .int r, .int m, .int c] 4 = some (.int c) := rfl
def pullS : DSp := fun ds O Q _ => ∃ n : Int, ds = [.int n] ∧ 0 < n ∧ n < 1073741824 ∧ ∀ k, 0 ≤ k → k < n → Q (.int k) O
section
variable {P : Program} {w : World} {K : PySem.W.Frag} {mg : Str → Option Value} {base : Heap}
theorem ok_pull {f : Addr} {fd : FuncData} (F : Fun K "_law_pull" "_law_pull" s_pull f fd) (mi : mg "int" = none) (ml : mg "len" = none) (ma : mg "abs" = none) : FnOk P w K mg base CX0 1 f fd ["_law_box_here", "_law_many"] (spB K pullS) := by
  refine F.ok sc_pull (fun vs H Q E ⟨b, l, T, ws, G, O, ds, ev, g, r, Q0, E0, h0, _⟩ => ?_) (fun cdv A outer s H vs Q E hr ⟨b, l, T, ws, G, O, ds, ev, g, r, Q0, E0, h0, hq, hx⟩ => ?_)
  · obtain ⟨n, rfl, _⟩ := h0
    rw [ev, List.length_cons, r.length]
    rfl
  · obtain ⟨n, rfl, n0, n1, h0⟩ := h0
    subst ev
    cases r with
    | cons r1 r2 =>
    cases r2
    cases r1
    obtain ⟨hid, ⟨ns, i, r, m, c, hb, hl, i0, r0, m0, m1, c0⟩, htab, htv⟩ := g.box b l T rfl
    have nlb : ∀ (o : HO), SqL K (upd H b o) l (ns.map V.int) := fun o => by
      refine Sub.sqL (fun a u e => ?_) hl
      rw [upd_ne (fun z => by rw [z, hid] at e; cases e)]
      exact g.sub a u e
    have fin : ∀ (k i r m c : Int), 0 ≤ k → k < n → 0 ≤ i → 0 ≤ r → 0 ≤ m → m < 2147483587 → 0 ≤ c → Q (.int k) (upd H b (bx l i r m c)) := fun k i r m c k0 k1 i0 r0 m0 m1 c0 => by
      refine hq (.int k) O (h0 k k0 k1) (.int k) G _ ⟨Sub.refl G, ⟨fun a o e => ?_, fun b' l' T' e => ?_, g.amb, fun p d e => ?_⟩, fun a o e ne _ => ?_, fun _ _ _ z n => ⟨z, n⟩, upd_still⟩ (.int k)
      · rw [upd_ne (fun z => by rw [z, hid] at e; cases e)]
        exact g.sub a o e
      · cases e
        refine ⟨hid, ⟨ns, i, r, m, c, upd_same, hl, i0, r0, m0, m1, c0⟩, fun p hp => ?_, htv⟩
        obtain ⟨ps, a1, a2, a3⟩ := htab p hp
        have ne : ∀ {a : Addr} {o : HO}, H a = some o → (∀ xs, o ≠ .lst xs) → upd H b (bx l i r m c) a = some o := fun {a o} e n => by
          rw [upd_ne (fun z => by rw [z, hb] at e; cases e; exact n _ rfl)]; exact e
        refine ⟨ps, ne a1 (fun xs z => by cases z), a2, fun pos cv hc => ?_⟩
        obtain ⟨c0, e1, e2⟩ := a3 pos cv hc
        exact ⟨c0, e1, e2⟩
      · obtain ⟨z1, z2, z3⟩ := g.own p d e
        exact ⟨z1, z2, z3.mono (Sub.refl _) fun o h => by rw [upd_ne (fun z => z2 ⟨b, l, T, rfl, .inl z⟩)]; exact h⟩
      · rw [upd_ne (fun z => ne ⟨b, l, T, rfl, .inl z⟩)]
        exact e
    refine ⟨_, pss_cons (ps_asg (pe_op op_add (pe_ix ix_list (pv 0) pe_int (fun _ _ => rfl)) pe_int) (pg_sub (pv 0) pe_int set_list))
      (C8.pss_cut (ps_if (PW.pt (pw_and (pt_cmpR op_eq (pe_ix ix_list (pv 0) pe_int (fun _ _ => rfl)) pe_int (nomark _)) (pw_and1 (pt_cmpR op_lt (pe_ix ix_list (pv 0) pe_int (fun _ _ => rfl)) (pe_callB call_len rfl ml boot_len (pa_cons (pe_ix ix_list (pv 0) pe_int (fun _ _ => rfl)) pa_nil)) (nomark _)))))
        (pss_cons (ps_set (i := 2) sc_pull.nd rfl (.inl rfl) (pe_ix ix_list (pe_ix ix_list (pv 0) pe_int (fun _ _ => rfl)) (pe_ix ix_list (pv 0) pe_int (fun _ _ => rfl)) (fun _ _ => rfl)))
        (pss_cons (ps_asg (pe_op op_add (pe_ix ix_list (pv 0) pe_int (fun _ _ => rfl)) pe_int) (pg_sub (pv 0) pe_int set_list))
        (pss_one (ps_if (pt_cmpR op_ge (pe_callB call_abs rfl ma boot_abs (pa_cons (pv 2) pa_nil)) (pe_op op_pow pe_int pe_int) (nomark _))
          (pss_one (ps_asg (pe_callB call_abs rfl ma boot_abs (pa_cons (pv 2) pa_nil)) (pg_sub (pv 0) pe_int set_list)))
          (pss_one (ps_asg (pe_op op_mod (pe_callTy call_int1 rfl mi boot_int (pa_cons (pe_op op_add (pe_op op_add (pe_op op_mul (pe_ix ix_list (pv 0) pe_int (fun _ _ => rfl)) pe_int) (pe_op op_mul (pe_op op_mod (pe_callTy call_int1 rfl mi boot_int (pa_cons (pv 2) pa_nil)) pe_int) pe_int)) pe_int) pa_nil)) pe_int) (pg_sub (pv 0) pe_int set_list)))))))
        pss_nil)
      (pss_cons (ps_if (pt_cmpR op_gt (pe_ix ix_list (pv 0) pe_int (fun _ _ => rfl)) pe_int (nomark _))
        (pss_cons (ps_set (i := 3) sc_pull.nd rfl (.inl rfl) (pe_op op_mod (pe_callTy call_int1 rfl mi boot_int (pa_cons (pe_ix ix_list (pv 0) pe_int (fun _ _ => rfl)) pa_nil)) (pv 1)))
        (pss_cons (ps_asg (pe_op op_fdiv (pe_ix ix_list (pv 0) pe_int (fun _ _ => rfl)) (pv 1)) (pg_sub (pv 0) pe_int set_list))
        (pss_one (ps_ret (pv 3)))))
        pss_nil)
      (pss_cons (ps_set (i := 4) sc_pull.nd rfl (.inl rfl) (pe_op op_mod (pe_callTy call_int1 rfl mi boot_int (pa_cons (pe_op op_add (pe_op op_mul (pe_ix ix_list (pv 0) pe_int (fun _ _ => rfl)) (pe_ix ix_list (pv 0) pe_int (fun _ _ => rfl))) (pe_op op_mul (pe_ix ix_list (pv 0) pe_int (fun _ _ => rfl)) pe_int)) pa_nil)) pe_int))
      (pss_cons (ps_asg (pe_op op_mod (pe_callTy call_int1 rfl mi boot_int (pa_cons (pe_op op_add (pe_op op_add (pe_op op_mul (pv 4) pe_int) (pe_op op_mul (pe_ix ix_list (pv 0) pe_int (fun _ _ => rfl)) pe_int)) pe_int) pa_nil)) pe_int) (pg_sub (pv 0) pe_int set_list))
      (pss_one (ps_ret (pe_op op_mod (pe_callTy call_int1 rfl mi boot_int (pa_cons (pe_op op_fdiv (pe_ix ix_list (pv 0) pe_int (fun _ _ => rfl)) pe_int) pa_nil)) (pv 1)))))))), ?_⟩
    have sq : ∀ {H' : Hp} {i r m c : Int}, H' = upd H b (bx l i r m c) → SqL K H' b [.ref l, .int i, .int r, .int m, .int c] := fun e => by
      rw [e]; exact .inl (.inl upd_same)
    -- box[4] = box[4] + 1
    refine ⟨.ref b, rfl, b, _, 4, _, rfl, rfl, .inl (.inl hb), at4, _, _, rfl, rfl, .ref b, rfl, b, _, 4, 4, rfl, rfl, hb, rfl, ?_⟩
    rw [show [V.ref l, .int i, .int r, .int m, .int c].set 4 (.int (c + 1)) = [V.ref l, .int i, .int r, .int m, .int (c + 1)] from rfl]
    refine ⟨fun σ' H' => ∃ (y2 : Option V) (i r m c : Int), σ' = [some (.ref b), some (.int n), y2, none, none] ∧ H' = upd H b (bx l i r m c) ∧ 0 ≤ i ∧ 0 ≤ r ∧ 0 ≤ m ∧ m < 2147483587 ∧ 0 ≤ c, ?_, ?_⟩
    · -- if box[2] == 0 and box[1] < len(box[0])
      have q0 : SqL K (upd H b (bx l i r m (c + 1))) b [.ref l, .int i, .int r, .int m, .int (c + 1)] := sq rfl
      have stop : ∃ (y2 : Option V) (i' r' m' c' : Int), [some (V.ref b), some (V.int n), none, none, none] = [some (.ref b), some (.int n), y2, none, none] ∧ upd H b (bx l i r m (c + 1)) = upd H b (bx l i' r' m' c') ∧ 0 ≤ i' ∧ 0 ≤ r' ∧ 0 ≤ m' ∧ m' < 2147483587 ∧ 0 ≤ c' :=
        ⟨none, i, r, m, c + 1, rfl, rfl, i0, r0, m0, m1, by omega⟩
      refine ⟨.ref b, rfl, b, _, 2, _, rfl, rfl, q0, at2, rfl, _, rfl, ite2 (fun e1 => ?_) (fun e1 => iteF stop)⟩
      refine ⟨.ref b, rfl, b, _, 1, _, rfl, rfl, q0, at1, .ref b, rfl, b, _, 0, _, rfl, rfl, q0, at0, .ref l, _, rfl, .inl ⟨_, nlb _, rfl⟩, _, _, rfl, rfl, _, rfl, ite2 (fun e2 => ?_) (fun e2 => stop)⟩
      have e2 : i < ((ns.map V.int).length : Int) := of_decide_eq_true e2
      rw [List.length_map] at e2
      have hi : i.toNat < ns.length := by omega
      have gi : (ns.map V.int)[i.toNat]? = some (.int ns[i.toNat]) := by
        rw [List.getElem?_map, List.getElem?_eq_getElem hi]; rfl
      have ai : atI (ns.map V.int) i = some (.int ns[i.toNat]) := by
        have := atI_nat gi
        rwa [Int.toNat_of_nonneg i0] at this
      -- cell = box[0][box[1]]; box[1] = box[1] + 1
      refine ⟨.ref b, rfl, b, _, 0, _, rfl, rfl, q0, at0, .ref b, rfl, b, _, 1, _, rfl, rfl, q0, at1, l, _, i, _, rfl, rfl, nlb _, ai, ?_⟩
      refine ⟨.ref b, rfl, b, _, 1, _, rfl, rfl, q0, at1, _, _, rfl, rfl, .ref b, rfl, b, _, 1, 1, rfl, rfl, upd_same, rfl, ?_⟩
      rw [upd_upd, show [V.ref l, .int i, .int r, .int m, .int (c + 1)].set 1 (.int (i + 1)) = [V.ref l, .int (i + 1), .int r, .int m, .int (c + 1)] from rfl]
      have q1 : SqL K (upd H b (bx l (i + 1) r m (c + 1))) b [.ref l, .int (i + 1), .int r, .int m, .int (c + 1)] := sq rfl
      refine ⟨.int ns[i.toNat], rfl, _, rfl, _, _, rfl, rfl, ⟨by decide, by decide, by decide⟩, _, _, rfl, rfl, _, rfl, ite2 (fun e3 => ?_) (fun e3 => ?_)⟩
      · refine ⟨.int ns[i.toNat], rfl, _, rfl, .ref b, rfl, b, _, 2, 2, rfl, rfl, upd_same, rfl, ?_⟩
        rw [upd_upd]
        refine ⟨some (.int ns[i.toNat]), i + 1, _, m, c + 1, rfl, rfl, by omega, ?_, m0, m1, by omega⟩
        split <;> omega
      · refine ⟨.ref b, rfl, b, _, 3, _, rfl, rfl, q1, at3, _, _, rfl, rfl, .inr ⟨by decide, by decide⟩, .int ns[i.toNat], rfl, .inl ⟨_, rfl, _, _, rfl, rfl, (by decide : (0 : Int) < 1000003), _, _, rfl, rfl, .inr ⟨by decide, by decide⟩, _, _, rfl, rfl, _, _, rfl, rfl, .inl ⟨_, rfl, _, _, rfl, rfl, (by decide : (0 : Int) < 2147483587), .ref b, rfl, b, _, 3, 3, rfl, rfl, upd_same, rfl, ?_⟩⟩⟩
        rw [upd_upd]
        exact ⟨some (.int ns[i.toNat]), i + 1, r, _, c + 1, rfl, rfl, by omega, r0, Int.emod_nonneg _ (by decide), Int.emod_lt_of_pos _ (by decide), by omega⟩
    · rintro σ' H' ⟨y2, i, r, m, c, rfl, rfl, i0, r0, m0, m1, c0⟩
      have q0 : SqL K (upd H b (bx l i r m c)) b [.ref l, .int i, .int r, .int m, .int c] := sq rfl
      refine ⟨.ref b, rfl, b, _, 2, _, rfl, rfl, q0, at2, _, _, rfl, rfl, _, rfl, ite2 (fun e1 => ?_) (fun e1 => ?_)⟩
      · refine ⟨.ref b, rfl, b, _, 2, _, rfl, rfl, q0, at2, .inl ⟨_, rfl, .int n, rfl, _, _, rfl, rfl, n0, ?_⟩⟩
        refine ⟨.ref b, rfl, b, _, 2, _, rfl, rfl, q0, at2, .int n, rfl, _, _, rfl, rfl, ⟨n0, n1⟩, .ref b, rfl, b, _, 2, 2, rfl, rfl, upd_same, rfl, .int (r % n), rfl, ?_⟩
        rw [upd_upd]
        exact fin _ i (r / n) m c (Int.emod_nonneg _ (by omega)) (Int.emod_lt_of_pos _ n0) i0 (Int.ediv_nonneg r0 (by omega)) m0 m1 c0
      · refine ⟨.ref b, rfl, b, _, 3, _, rfl, rfl, q0, at3, .ref b, rfl, b, _, 3, _, rfl, rfl, q0, at3, _, _, rfl, rfl, .inl ⟨by omega, by omega⟩, .ref b, rfl, b, _, 4, _, rfl, rfl, q0, at4, _, _, rfl, rfl, .inr ⟨by decide, by decide⟩, _, _, rfl, rfl, .inl ⟨_, rfl, _, _, rfl, rfl, (by decide : (0 : Int) < 2147483543), ?_⟩⟩
        refine ⟨_, rfl, _, _, rfl, rfl, .inr ⟨by decide, by decide⟩, .ref b, rfl, b, _, 3, _, rfl, rfl, q0, at3, _, _, rfl, rfl, .inr ⟨by decide, by decide⟩, _, _, rfl, rfl, _, _, rfl, rfl, .inl ⟨_, rfl, _, _, rfl, rfl, (by decide : (0 : Int) < 2147483587), .ref b, rfl, b, _, 3, 3, rfl, rfl, upd_same, rfl, ?_⟩⟩
        rw [upd_upd]
        refine ⟨.ref b, rfl, b, _, 3, _, rfl, rfl, sq rfl, at3, _, _, rfl, rfl, ⟨by decide, by decide⟩, .inl ⟨_, rfl, .int n, rfl, _, _, rfl, rfl, n0, ?_⟩⟩
        exact fin _ i r _ c (Int.emod_nonneg _ (by omega)) (Int.emod_lt_of_pos _ n0) i0 r0 (Int.emod_nonneg _ (by decide)) (Int.emod_lt_of_pos _ (by decide)) c0
end
end LW
set_option Elab.async false
set_option linter.all false
set_option maxRecDepth 100000
set_option maxHeartbeats 4000000
namespace LW
open PySem PySem.Spec PyProof.Rows L2 EV
theorem hu1 {A : Around} {k : Nat} (hr : Room k A) : A.units + 65 < cLine := by have := hr.un; omega
theorem pass0A {X : Cx} {σ : L2.St} {E : XK} : PassesAt CX0 X σ E := fun _ _ _ _ _ _ h => h.elim
abbrev s_of : Stmt := topS 40
abbrev N_of : List Str := ["_law_box_here", "_law_some"]
theorem sc_of : FnScope N_of ["_law_box_here", "_law_some"] (defScope s_of) := ⟨rfl, rfl, rfl, by decide +kernel, rfl, by decide +kernel, by decide +kernel⟩
def itemsL : D → List D
  | .lst xs => xs
  | .tup xs => xs
  | .str y => charsD y
  | _ => []
def ofS : DSp := fun ds O Q _ => ∃ d, ds = [d] ∧ 0 < (itemsL d).length ∧ (itemsL d).length < 1000000 ∧ ∀ y ∈ itemsL d, Q y O
abbrev s_same : Stmt := topS 42
abbrev N_same : List Str := ["_law_found", "_law_due", "_law_a", "_law_b"]
theorem sc_same : FnScope N_same ["_law_found", "_law_due"] (defScope s_same) := ⟨rfl, rfl, rfl, by decide +kernel, rfl, by decide +kernel, by decide +kernel⟩
mutual
def sameD : D → D → Bool
  | .non, .non => true
  | .bl a, .bl b => decide (a = b)
  | .int a, .int b => decide (a = b)
  | .str a, .str b => decide (a = b)
  | .lst xs, .lst ys => sameL xs ys
  | .tup xs, .tup ys => sameL xs ys
  | _, _ => false
def sameL : List D → List D → Bool
  | [], [] => true
  | x :: xs, y :: ys => sameD x y && sameL xs ys
  | _, _ => false
end
/-- plain data, at most so deep -/
def Plain : Nat → D → Prop
  | _, .non => True
  | _, .bl _ => True
  | _, .int _ => True
  | _, .str _ => True
  | n + 1, .lst xs => xs.length ≤ sizeLine ∧ ∀ x ∈ xs, Plain n x
  | n + 1, .tup xs => xs.length ≤ sizeLine ∧ ∀ x ∈ xs, Plain n x
  | _, _ => False
def sameS (n : Nat) : DSp := fun ds O Q _ => ∃ a b, ds = [a, b] ∧ Plain n a ∧ Plain n b ∧ Q (.bl (sameD a b)) O
theorem Plain.ty {n : Nat} {d : D} (h : Plain n d) : (tyD d).isSome = true := by
  cases d <;> cases n <;> first | rfl | exact h.elim
theorem sameL_len {xs ys : List D} (h : xs.length ≠ ys.length) : sameL xs ys = false := by
  induction xs generalizing ys with
  | nil => cases ys with
    | nil => exact absurd rfl h
    | cons => rfl
  | cons x xs ih => cases ys with
    | nil => rfl
    | cons y ys =>
      simp only [List.length_cons, ne_eq, Nat.add_right_cancel_iff] at h
      simp [sameL, ih h]
theorem sameL_zip {xs ys : List D} (h : xs.length = ys.length) : sameL xs ys = ((List.zip xs ys).all fun p => sameD p.1 p.2) := by
  induction xs generalizing ys with
  | nil => cases ys with
    | nil => rfl
    | cons => cases h
  | cons x xs ih => cases ys with
    | nil => cases h
    | cons y ys =>
      simp only [List.length_cons, Nat.add_right_cancel_iff] at h
      simp [sameL, ih h]
theorem zipL_eq (xs ys : List D) : zipL xs ys = (List.zip xs ys).map fun p => .tup [p.1, p.2] := by
  unfold zipL
  rw [List.zip, List.map_zipWith]
section
variable {P : Program} {w : World} {K : PySem.W.Frag} {mg : Str → Option Value} {base : Heap}
theorem ok_of {f fP : Addr} {fd fdP : FuncData} (F : Fun K "_law_of" "_law_of" s_of f fd) (G_pull : FnOk P w K mg base CX0 1 fP fdP ["_law_box_here", "_law_many"] (spB K pullS)) (T_pull : Gf K mg "_law_pull" fP fdP ["_law_box_here", "_law_many"]) (m_len : mg "len" = none) :
    FnOk P w K mg base CX0 2 f fd ["_law_box_here", "_law_some"] (spB K ofS) := by
  refine fn_box F sc_of (fun ds O Q E h => ?_) (fun cdv A outer s H E b l T hr =>
    (d_sone (d_ret (d_ix (d_var (i := 1) rfl (.inl rfl) (by decide) (by decide)) (d_callX G_pull rfl (hr.mono (by decide)) rfl T_pull.m T_pull.k T_pull.b (fun _ => pass0A) (d_cons (d_var (i := 0) rfl (.inl rfl) (by decide) (by decide)) (d_cons (d_callB cd_len rfl m_len boot_len (d_cons (d_var (i := 1) rfl (.inl rfl) (by decide) (by decide)) d_nil rfl) (by decide) (by decide) rfl rfl) d_nil rfl) rfl) (by decide) rfl rfl) (fun _ _ => rfl))))) (fun b ds O Q E h => ?_) (fun ds O Q E h => h)
  · obtain ⟨d, rfl, _⟩ := h; rfl
  · obtain ⟨d, rfl, h1, h2, q⟩ := h
    rw [show startD N_of [.opq (.ref b), d] = [.sh (.opq (.ref b)), .sh d] from rfl]
    have key : ∀ (xs : List D) (k : Int), 0 ≤ k → k < xs.length → ∃ y, atI xs k = some y ∧ y ∈ xs := fun xs k k0 k1 => by
      have hk : k.toNat < xs.length := by omega
      have e : atI xs ((k.toNat : Nat) : Int) = some xs[k.toNat] := atI_nat (List.getElem?_eq_getElem hk)
      rw [Int.toNat_of_nonneg k0] at e
      exact ⟨_, e, List.getElem_mem hk⟩
    cases d with
    | lst xs =>
      refine ⟨rfl, spM.of ⟨xs.length, rfl, by exact_mod_cast h1, by have : xs.length < 1000000 := h2; omega, fun k k0 k1 => ?_⟩⟩
      obtain ⟨y, e, m⟩ := key xs k k0 k1
      show ixP _ _ _
      simp only [ixP, lk, e]
      exact q y m
    | tup xs =>
      refine ⟨rfl, spM.of ⟨xs.length, rfl, by exact_mod_cast h1, by have : xs.length < 1000000 := h2; omega, fun k k0 k1 => ?_⟩⟩
      obtain ⟨y, e, m⟩ := key xs k k0 k1
      show ixP _ _ _
      simp only [ixP, lk, e]
      exact q y m
    | str z =>
      have hz : (charsD z).length = z.length := by simp [charsD]; rfl
      have h1 : 0 < (charsD z).length := h1
      have h2 : (charsD z).length < 1000000 := h2
      rw [hz] at h1 h2
      have hs : z.length ≤ sizeLine := Nat.le_trans (Nat.le_of_lt h2) (by decide)
      refine ⟨hs, rfl, spM.of ⟨z.length, rfl, by exact_mod_cast h1, by omega, fun k k0 k1 => ⟨hs, ?_⟩⟩⟩
      have hk : k.toNat < z.cps.toList.length := by
        have : z.cps.toList.length = z.length := by simp; rfl
        omega
      have e : atI z.cps.toList ((k.toNat : Nat) : Int) = some z.cps.toList[k.toNat] := atI_nat (List.getElem?_eq_getElem hk)
      rw [Int.toNat_of_nonneg k0] at e
      rw [e]
      exact q _ (List.mem_map.mpr ⟨_, List.getElem_mem hk, rfl⟩)
    | non => cases h1
    | bl => cases h1
    | int => cases h1
    | opq => cases h1
    | dic => cases h1
    | ins => cases h1
    | exc => cases h1
    | lam => cases h1
    | nk => cases h1
theorem ok_same {f : Addr} {fd : FuncData} (F : Fun K "_law_same" "_law_same" s_same f fd) (T_same : Gf K mg "_law_same" f fd ["_law_found", "_law_due"]) (m_isinstance : mg "isinstance" = none) (m_list : mg "list" = none) (m_tuple : mg "tuple" = none)
    (m_bool : mg "bool" = none) (m_int : mg "int" = none) (m_str : mg "str" = none) (m_len : mg "len" = none) (m_all : mg "all" = none) (m_zip : mg "zip" = none) : ∀ n : Nat, FnOk P w K mg base CX0 (n + 2) f fd ["_law_found", "_law_due"] (spD K (sameS n)) := by
  have step : ∀ (k : Nat) (S : DSp), FnOk P w K mg base CX0 (k + 1) f fd ["_law_found", "_law_due"] (spD K S) → ∀ (S2 : DSp), (∀ ds O Q E, S2 ds O Q E → ∃ (n : Nat) (a b : D), ds = [a, b] ∧ Plain n a ∧ Plain n b ∧ Q (.bl (sameD a b)) O ∧ ∀ x y Q', (∃ m, n = m + 1 ∧ Plain m x ∧ Plain m y) → Q' (.bl (sameD x y)) O → S [x, y] O Q' fun _ _ => False) →
      (∀ ds O Q E, S2 ds O Q E → S2 ds O Q fun _ _ => False) → FnOk P w K mg base CX0 (k + 2) f fd ["_law_found", "_law_due"] (spD K S2) := by
    intro k S G_same S2 hS noex
    refine fn_pure F sc_same (fun ds O Q E h => ?_) (fun cdv A outer s H E hr =>
      (d_scons (d_ifS (DPW.pt (d_wor (d_tcmp od_is (d_var (i := 1) rfl (.inl rfl) (by decide) (by decide)) d_non (nomark _)) (d_or1 (d_tcmp od_is (d_var (i := 0) rfl (.inl rfl) (by decide) (by decide)) d_non (nomark _))))) (d_sone (d_ret (d_and (d_cmp od_is (d_var (i := 1) rfl (.inl rfl) (by decide) (by decide)) d_non (nomark _)) (d_one (d_cmp od_is (d_var (i := 0) rfl (.inl rfl) (by decide) (by decide)) d_non (nomark _)))))) d_snil)
      (d_scons (d_ifS (d_test (d_isiT rfl m_isinstance (d_var (i := 1) rfl (.inl rfl) (by decide) (by decide)) (d_cons (d_ty rfl m_list boot_list (by decide) (by decide)) (d_cons (d_ty rfl m_tuple boot_tuple (by decide) (by decide)) d_nil rfl) rfl) rfl rfl rfl) (by intro _; rfl)) (d_scons (d_ifS (DPW.pt (d_wor (d_tcmp (od_ne hr.units) (d_callB cd_isi rfl m_isinstance boot_isinstance (d_cons (d_var (i := 0) rfl (.inl rfl) (by decide) (by decide)) (d_cons (d_ty rfl m_list boot_list (by decide) (by decide)) d_nil rfl) rfl) (by decide) (by decide) rfl rfl) (d_callB cd_isi rfl m_isinstance boot_isinstance (d_cons (d_var (i := 1) rfl (.inl rfl) (by decide) (by decide)) (d_cons (d_ty rfl m_list boot_list (by decide) (by decide)) d_nil rfl) rfl) (by decide) (by decide) rfl rfl) (nomark _)) (d_or1 (d_tcmp (od_ne hr.units) (d_callB cd_isi rfl m_isinstance boot_isinstance (d_cons (d_var (i := 0) rfl (.inl rfl) (by decide) (by decide)) (d_cons (d_ty rfl m_tuple boot_tuple (by decide) (by decide)) d_nil rfl) rfl) (by decide) (by decide) rfl rfl) (d_callB cd_isi rfl m_isinstance boot_isinstance (d_cons (d_var (i := 1) rfl (.inl rfl) (by decide) (by decide)) (d_cons (d_ty rfl m_tuple boot_tuple (by decide) (by decide)) d_nil rfl) rfl) (by decide) (by decide) rfl rfl) (nomark _))))) (d_sone (d_ret d_bl)) d_snil)
      (d_sone (d_ret (d_and (d_cmp (od_eq hr.units) (d_callB cd_len rfl m_len boot_len (d_cons (d_var (i := 0) rfl (.inl rfl) (by decide) (by decide)) d_nil rfl) (by decide) (by decide) rfl rfl) (d_callB cd_len rfl m_len boot_len (d_cons (d_var (i := 1) rfl (.inl rfl) (by decide) (by decide)) d_nil rfl) (by decide) (by decide) rfl rfl) (nomark _)) (d_one (d_callB (cd_all rfl) rfl m_all boot_all (d_cons (d_lc rfl sc_same.nd (d_zip rfl m_zip (d_cons (d_var (i := 0) rfl (.inl rfl) (by decide) (by decide)) (d_cons (d_var (i := 1) rfl (.inl rfl) (by decide) (by decide)) d_nil rfl) rfl) rfl rfl) (blkOk_by (own := [("_law_a", 2), ("_law_b", 3)]) (N := N_same) (sc := defScope s_same) (by decide +kernel)) (fun _ _ _ _ _ => (dg_tup (n := 2) rfl (dgs_cons (dg_name (i := 2) sc_same.nd rfl (.inl rfl) (.inr rfl)) (dgs_cons (dg_name (i := 3) sc_same.nd rfl (.inl rfl) (.inr rfl)) dgs_nil rfl) rfl) rfl rfl)) (fun _ _ _ _ _ => d_ifs0) (fun _ _ _ _ _ => (d_call G_same hr rfl T_same.m T_same.k T_same.b (fun _ => pass0A) (d_cons (d_var (i := 2) rfl (.inl rfl) (by decide) (by decide)) (d_cons (d_var (i := 3) rfl (.inl rfl) (by decide) (by decide)) d_nil rfl) rfl) (by decide) rfl rfl)) (by decide +kernel) (fun _ => rfl)) d_nil rfl) (by decide) (by decide) rfl rfl)))))) d_snil)
      (d_scons (d_ifS (DPW.pt (d_wor (d_test (d_callB cd_isi rfl m_isinstance boot_isinstance (d_cons (d_var (i := 1) rfl (.inl rfl) (by decide) (by decide)) (d_cons (d_ty rfl m_bool boot_bool (by decide) (by decide)) d_nil rfl) rfl) (by decide) (by decide) rfl rfl) (by intro _; rfl)) (d_or1 (d_test (d_callB cd_isi rfl m_isinstance boot_isinstance (d_cons (d_var (i := 0) rfl (.inl rfl) (by decide) (by decide)) (d_cons (d_ty rfl m_bool boot_bool (by decide) (by decide)) d_nil rfl) rfl) (by decide) (by decide) rfl rfl) (by intro _; rfl))))) (d_sone (d_ret (d_and (d_callB cd_isi rfl m_isinstance boot_isinstance (d_cons (d_var (i := 1) rfl (.inl rfl) (by decide) (by decide)) (d_cons (d_ty rfl m_bool boot_bool (by decide) (by decide)) d_nil rfl) rfl) (by decide) (by decide) rfl rfl) (d_and (d_callB cd_isi rfl m_isinstance boot_isinstance (d_cons (d_var (i := 0) rfl (.inl rfl) (by decide) (by decide)) (d_cons (d_ty rfl m_bool boot_bool (by decide) (by decide)) d_nil rfl) rfl) (by decide) (by decide) rfl rfl) (d_one (d_cmp (od_eq hr.units) (d_var (i := 0) rfl (.inl rfl) (by decide) (by decide)) (d_var (i := 1) rfl (.inl rfl) (by decide) (by decide)) (nomark _))))))) d_snil)
      (d_scons (d_ifS (d_test (d_callB cd_isi rfl m_isinstance boot_isinstance (d_cons (d_var (i := 1) rfl (.inl rfl) (by decide) (by decide)) (d_cons (d_ty rfl m_int boot_int (by decide) (by decide)) d_nil rfl) rfl) (by decide) (by decide) rfl rfl) (by intro _; rfl)) (d_sone (d_ret (d_and (d_callB cd_isi rfl m_isinstance boot_isinstance (d_cons (d_var (i := 0) rfl (.inl rfl) (by decide) (by decide)) (d_cons (d_ty rfl m_int boot_int (by decide) (by decide)) d_nil rfl) rfl) (by decide) (by decide) rfl rfl) (d_one (d_cmp (od_eq hr.units) (d_var (i := 0) rfl (.inl rfl) (by decide) (by decide)) (d_var (i := 1) rfl (.inl rfl) (by decide) (by decide)) (nomark _)))))) d_snil)
      (d_sone (d_ret (d_and (d_callB cd_isi rfl m_isinstance boot_isinstance (d_cons (d_var (i := 0) rfl (.inl rfl) (by decide) (by decide)) (d_cons (d_ty rfl m_str boot_str (by decide) (by decide)) d_nil rfl) rfl) (by decide) (by decide) rfl rfl) (d_and (d_callB cd_isi rfl m_isinstance boot_isinstance (d_cons (d_var (i := 1) rfl (.inl rfl) (by decide) (by decide)) (d_cons (d_ty rfl m_str boot_str (by decide) (by decide)) d_nil rfl) rfl) (by decide) (by decide) rfl rfl) (d_one (d_cmp (od_eq hr.units) (d_var (i := 0) rfl (.inl rfl) (by decide) (by decide)) (d_var (i := 1) rfl (.inl rfl) (by decide) (by decide)) (nomark _)))))))))))) (fun ds O Q E h => ?_) noex
    · obtain ⟨n, a, b, rfl, _⟩ := hS ds O Q E h; rfl
    · obtain ⟨n, a, b, rfl, pa, pb, q, rec⟩ := hS ds O Q E h
      rw [show startD N_same [a, b] = [.sh a, .sh b, .un, .un] from rfl]
      have ta := pa.ty
      have tb := pb.ty
      have core : ∀ (xs ys : List D) (Q' : QD), xs.length ≤ sizeLine → (∃ m, n = m + 1 ∧ (∀ x ∈ xs, Plain m x) ∧ ∀ y ∈ ys, Plain m y) → xs.length = ys.length → Q' (.bl (sameL xs ys)) O →
          lcW tt1 (dgTup 2 (dgCons (dgName 2) (dgCons (dgName 3) dgNil))) dYes (dCall S (dCons (dVar 2) (dCons (dVar 3) dNil))) [.sh a, .sh b, .un, .un] (zipL xs ys) [] O (fun l O1 => allD [.lst l] fun d => Q' d O1) := by
        intro xs ys Q' hl ⟨m, em, hx, hy⟩ hlen q'
        refine lcW_map trivial (fun d => match d with | .tup [x, y] => .bl (sameD x y) | _ => .non) (fun d md Qy hq => ?_) (by simp [zipL]; omega) ?_
        · rw [zipL_eq] at md
          obtain ⟨⟨x, y⟩, mp, rfl⟩ := List.mem_map.mp md
          have mm : x ∈ xs ∧ y ∈ ys := by
            exact ⟨(List.of_mem_zip mp).1, (List.of_mem_zip mp).2⟩
          exact ⟨rfl, spM.of (rec x y Qy ⟨m, em, hx x mm.1, hy y mm.2⟩ hq)⟩
        · rw [List.nil_append, zipL_eq, List.map_map]
          refine allD_of (toBs_map (fun p : D × D => sameD p.1 p.2) _) ?_
          rw [List.all_map]
          have := sameL_zip hlen
          rw [this] at q'
          exact q'
      cases b with
      | non =>
        cases a <;> first
          | exact q
          | (cases ta; done)
      | lst ys =>
        cases n with
        | zero => exact pb.elim
        | succ n =>
          cases a with
          | lst xs =>
            refine ⟨by decide, rfl, ?_⟩
            refine ⟨by decide, rfl, by decide, rfl, ?_⟩
            refine ⟨by decide, rfl, by decide, rfl, ?_⟩
            by_cases hl : xs.length = ys.length
            · show bc (decide ((xs.length : Int) = ys.length)) _ _
              rw [decide_eq_true (by rw [hl])]
              exact core xs ys Q pa.1 ⟨n, rfl, pa.2, pb.2⟩ hl q
            · show bc (decide ((xs.length : Int) = ys.length)) _ _
              rw [decide_eq_false (by omega)]
              rw [show sameD (.lst xs) (.lst ys) = sameL xs ys by simp [sameD], sameL_len hl] at q
              exact q
          | tup xs => simp only [sameD] at q; (repeat (first | exact q | refine ⟨by decide, rfl, ?_⟩))
          | non => simp only [sameD] at q; (repeat (first | exact q | refine ⟨by decide, rfl, ?_⟩))
          | bl x => simp only [sameD] at q; (repeat (first | exact q | refine ⟨by decide, rfl, ?_⟩))
          | int x => simp only [sameD] at q; (repeat (first | exact q | refine ⟨by decide, rfl, ?_⟩))
          | str x => simp only [sameD] at q; (repeat (first | exact q | refine ⟨by decide, rfl, ?_⟩))
          | opq => cases ta
          | dic => exact pa.elim
          | ins => cases ta
          | exc => cases ta
          | lam => cases ta
          | nk => cases ta
      | tup ys =>
        cases n with
        | zero => exact pb.elim
        | succ n =>
          cases a with
          | tup xs =>
            refine ⟨by decide, rfl, ?_⟩
            refine ⟨by decide, rfl, by decide, rfl, ?_⟩
            refine ⟨by decide, rfl, by decide, rfl, ?_⟩
            by_cases hl : xs.length = ys.length
            · show bc (decide ((xs.length : Int) = ys.length)) _ _
              rw [decide_eq_true (by rw [hl])]
              exact core xs ys Q pa.1 ⟨n, rfl, pa.2, pb.2⟩ hl q
            · show bc (decide ((xs.length : Int) = ys.length)) _ _
              rw [decide_eq_false (by omega)]
              rw [show sameD (.tup xs) (.tup ys) = sameL xs ys by simp [sameD], sameL_len hl] at q
              exact q
          | lst xs => simp only [sameD] at q; (repeat (first | exact q | refine ⟨by decide, rfl, ?_⟩))
          | non => simp only [sameD] at q; (repeat (first | exact q | refine ⟨by decide, rfl, ?_⟩))
          | bl x => simp only [sameD] at q; (repeat (first | exact q | refine ⟨by decide, rfl, ?_⟩))
          | int x => simp only [sameD] at q; (repeat (first | exact q | refine ⟨by decide, rfl, ?_⟩))
          | str x => simp only [sameD] at q; (repeat (first | exact q | refine ⟨by decide, rfl, ?_⟩))
          | opq => cases ta
          | dic => exact pa.elim
          | ins => cases ta
          | exc => cases ta
          | lam => cases ta
          | nk => cases ta
      | bl y =>
        cases a with
        | opq => cases ta
        | ins => cases ta
        | exc => cases ta
        | lam => cases ta
        | nk => cases ta
        | dic => cases n <;> exact pa.elim
        | _ => simp only [sameD] at q; (repeat (first | exact q | refine ⟨by decide, rfl, ?_⟩))
      | int y =>
        cases a with
        | opq => cases ta
        | ins => cases ta
        | exc => cases ta
        | lam => cases ta
        | nk => cases ta
        | dic => cases n <;> exact pa.elim
        | _ => simp only [sameD] at q; (repeat (first | exact q | refine ⟨by decide, rfl, ?_⟩))
      | str y =>
        cases a with
        | opq => cases ta
        | ins => cases ta
        | exc => cases ta
        | lam => cases ta
        | nk => cases ta
        | dic => cases n <;> exact pa.elim
        | _ => simp only [sameD] at q; (repeat (first | exact q | refine ⟨by decide, rfl, ?_⟩))
      | opq => cases tb
      | dic => cases n <;> exact pb.elim
      | ins => cases tb
      | exc => cases tb
      | lam => cases tb
      | nk => cases tb
  intro n
  induction n with
  | zero =>
    refine step 0 (fun _ _ _ _ => False) ?_ (sameS 0) (fun ds O Q E ⟨a, b, e, pa, pb, q⟩ => ⟨0, a, b, e, pa, pb, q, fun x y Q' ⟨m, em, _⟩ => nomatch em⟩) (fun ds O Q E h => h)
    exact ⟨fun vs H Q E ⟨_, _, _, _, _, _, _, h, _⟩ => h.elim, fun A outer s H args us vs Q E _ _ _ _ ⟨_, _, _, _, _, _, _, h, _⟩ => h.elim⟩
  | succ n ih =>
    exact step (n + 1) (sameS n) ih (sameS (n + 1)) (fun ds O Q E ⟨a, b, e, pa, pb, q⟩ => ⟨n + 1, a, b, e, pa, pb, q, fun x y Q' ⟨m, em, px, py⟩ q' => by
      cases em
      exact ⟨x, y, rfl, px, py, q'⟩⟩) (fun ds O Q E h => h)
end
end LW
set_option Elab.async false
set_option linter.all false
set_option maxRecDepth 100000
set_option maxHeartbeats 4000000
namespace LW
open PySem PySem.Spec PyProof.Rows L2 EV
theorem pss_box {X : Cx} {sts : List Stmt} {m : Addr → DS} {T : List (Addr × Str)} (h : ∀ (b l : Addr), DPSs X ⟨boB b l T, fun _ _ _ _ => False⟩ sts (m b)) : PSs X sts (fun D σ H => ∃ b l, upS X.K ⟨boB b l T, fun _ _ _ _ => False⟩ (m b) D σ H) :=
  ⟨fun pins s σ H D I ⟨b, l, q⟩ => (h b l).run.run pins s σ H D I q⟩
def spLaw (K : PySem.W.Frag) (T : List (Addr × Str)) : Sp := fun vs H Q _ => ∃ (a : Addr) (ns : List Int), vs = [.ref a] ∧ SqL K H a (ns.map V.int) ∧ (∀ p ∈ T, H p.1 = some (.tbl #[])) ∧ ∀ H', Q (.bl true) H'
/-- the slots behind the box -/
def boxed (b : Addr) (n : Nat) : Slots := .un :: .sh (.opq (.ref b)) :: List.replicate n .un
def noO : Ow := fun _ => none
theorem boxed_rp {K : PySem.W.Frag} {G : Hp} {a b : Addr} {n : Nat} : RpS K G (some (.ref a) :: some (.ref b) :: List.replicate n none) (boxed b n) := by
  refine ⟨by simp [boxed], fun i d e => ?_⟩
  match i, e with
  | 0, e => cases e
  | 1, e => cases e; exact ⟨_, rfl, .opq _⟩
  | i + 2, e =>
    have : (List.replicate n Sl.un)[i]? = some (.sh d) := e
    rw [List.getElem?_replicate] at this
    split at this <;> cases this
/-- from the box's promise and the rest by value to the reading -/
theorem law_read {K : PySem.W.Frag} {a b l : Addr} {T : List (Addr × Str)} {ms : List Int} {mm : Int} {H1 : Hp} {Q : VK} {m : DS} {n : Nat} (mo : MoS m) (hb : H1 b = some (.lst [.ref l, .int 0, .int 0, .int mm, .int 0])) (hl : H1 l = some (.lst (ms.map V.int))) (ne : l ≠ b) (hT : ∀ p ∈ T, H1 p.1 = some (.tbl #[])) (m0 : 0 ≤ mm) (m1 : mm < 2147483587)
    (q : ∀ H', Q (.bl true) H') (h : m (endsD (fun d _ => d = .bl true) (fun _ _ => False)) (boxed b n) noO) :
    upS K ⟨boB b l T, fun _ _ _ _ => False⟩ m { nx := fun _ H' => Q .non H', rt := Q } (some (.ref a) :: some (.ref b) :: List.replicate n none) H1 := by
  have isT : ∀ x, x ∈ T.map (·.1) → H1 x = some (.tbl #[]) := fun x hx => by
    obtain ⟨p, hp, rfl⟩ := List.mem_map.mp hx
    exact hT p hp
  have lT : l ∉ T.map (·.1) := fun z => by have := isT l z; rw [hl] at this; cases this
  refine ⟨fun x => if x = b ∨ x ∈ T.map (·.1) then none else H1 x, noO, boxed b n, ⟨fun x o e => ?_, fun b' l' T' e => ?_, (fun _ _ e => nomatch e), fun p d e => nomatch e⟩, boxed_rp, mo (endsD (fun d _ => d = .bl true) fun _ _ => False) _ _ _ ⟨fun r O z => ?_, fun d O z v G' H' _ r => ?_, fun _ _ z => z.elim, fun _ _ z => z.elim, fun _ _ _ z => z.elim⟩ h⟩
  · by_cases c : x = b ∨ x ∈ T.map (·.1)
    · rw [if_pos c] at e; cases e
    · rw [if_neg c] at e; exact e
  · cases e
    refine ⟨if_pos (.inl rfl), ⟨ms, 0, 0, mm, 0, hb, .inl (.inl (by show (if l = b ∨ l ∈ T.map (·.1) then none else H1 l) = _; rw [if_neg (fun z => z.elim ne lT)]; exact hl)), by decide, by decide, m0, m1, by decide⟩, fun p hp => ⟨#[], hT p hp, True.intro, fun pos cv hc => by
      have z : codeAmong pos [] = some cv := hc
      simp [codeAmong] at z⟩, fun p hp => if_pos (.inr (List.mem_map_of_mem hp))⟩
  · cases (show D.non = D.bl true from z)
  · subst z
    cases r
    exact q H'
end LW
set_option Elab.async false
set_option linter.all false
set_option maxRecDepth 100000
set_option maxHeartbeats 4000000
namespace LW
open PySem PySem.Spec PyProof.Rows L2 EV
theorem zip_self {α : Type} : ∀ {xs : List α} {p : α × α}, p ∈ List.zip xs xs → p.1 = p.2
  | [], _, h => by simp at h
  | x :: xs, p, h => by
    rw [List.zip_cons_cons] at h
    rcases List.mem_cons.mp h with e | e
    · rw [e]
    · exact zip_self e
theorem st_norm {rest : DS} {A : DEnds} {ρ ρ' : Slots} {O : Ow} (e : ρ = ρ') (k : rest A ρ' O) : rest A ρ O := e ▸ k
theorem st_set {m : DE} {i : Nat} {rest : DS} {A : DEnds} {ρ : Slots} {O : Ow} (d : D) (h : ∀ Q E, Q d O → m ρ O Q E) (k : ∀ v, v = d → rest A (ρ.set i (.sh v)) O) : dSeq (dAsg m (dgName i)) rest A ρ O := h _ _ (k d rfl)
theorem st_setN {m : DE} {i : Nat} {rest : DS} {A : DEnds} {ρ : Slots} {O : Ow} (P : D → Prop) (h : ∀ Q E, (∀ d, P d → Q d O) → m ρ O Q E) (k : ∀ d, P d → rest A (ρ.set i (.sh d)) O) : dSeq (dAsg m (dgName i)) rest A ρ O := h _ _ k
theorem val_nil {ρ : Slots} {O : Ow} : ∀ (Q : List D → Ow → Prop) (E : QX), Q [] O → dNil ρ O Q E := fun _ _ q => q
theorem val_cons {m : DE} {mr : DA} {ρ : Slots} {O : Ow} (a : D) (as : List D) (h : ∀ Q E, Q a O → m ρ O Q E) (k : ∀ Q E, Q as O → mr ρ O Q E) : ∀ Q E, Q (a :: as) O → dCons m mr ρ O Q E := fun Q E q => h _ _ (k _ _ q)
theorem val_tup {mA : DA} {ρ : Slots} {O : Ow} (xs : List D) (h : ∀ Q E, Q xs O → mA ρ O Q E) (z : xs.length ≤ sizeLine) : ∀ Q E, Q (.tup xs) O → dTup mA ρ O Q E := fun Q E q => h _ _ ⟨z, q⟩
theorem val_op {o : D2} {ma mb : DE} {ρ : Slots} {O : Ow} (x y z : D) (h : ∀ Q E, Q x O → ma ρ O Q E) (k : ∀ Q E, Q y O → mb ρ O Q E) (ho : ∀ Q, Q z → o O x y Q) : ∀ Q E, Q z O → dOp o ma mb ρ O Q E := fun Q E q => h _ _ (k _ _ (ho _ q))
theorem le_sz {n : Nat} (h : Nat.ble n sizeLine = true) : n ≤ sizeLine := Nat.le_of_ble_eq_true h
theorem same_refl : ∀ (n : Nat) (d : D), Plain n d → sameD d d = true
  | _, .non, _ => by simp [sameD]
  | _, .bl _, _ => by simp [sameD]
  | _, .int _, _ => by simp [sameD]
  | _, .str _, _ => by simp [sameD]
  | n + 1, .lst xs, h => by
    rw [sameD, sameL_zip rfl]
    refine List.all_eq_true.mpr fun p hp => ?_
    have e : p.1 = p.2 := zip_self hp
    rw [← e]
    exact same_refl n p.1 (h.2 _ (List.of_mem_zip hp).1)
  | n + 1, .tup xs, h => by
    rw [sameD, sameL_zip rfl]
    refine List.all_eq_true.mpr fun p hp => ?_
    have e : p.1 = p.2 := zip_self hp
    rw [← e]
    exact same_refl n p.1 (h.2 _ (List.of_mem_zip hp).1)
  | 0, .lst _, h => h.elim
  | 0, .tup _, h => h.elim
  | 0, .opq _, h => h.elim
  | _ + 1, .opq _, h => h.elim
  | 0, .dic _, h => h.elim
  | _ + 1, .dic _, h => h.elim
  | 0, .ins _ _, h => h.elim
  | _ + 1, .ins _ _, h => h.elim
  | 0, .exc _ _, h => h.elim
  | _ + 1, .exc _ _, h => h.elim
  | 0, .lam _, h => h.elim
  | 0, .nk _ _ _, h => h.elim
  | _ + 1, .lam _, h => h.elim
  | _ + 1, .nk _ _ _, h => h.elim
theorem Plain.up : ∀ {n : Nat} {d : D}, Plain n d → Plain (n + 1) d
  | _, .non, _ => trivial
  | _, .bl _, _ => trivial
  | _, .int _, _ => trivial
  | _, .str _, _ => trivial
  | n + 1, .lst xs, h => ⟨h.1, fun x hx => (h.2 x hx).up⟩
  | n + 1, .tup xs, h => ⟨h.1, fun x hx => (h.2 x hx).up⟩
  | 0, .lst _, h => h.elim
  | 0, .tup _, h => h.elim
  | 0, .opq _, h => h.elim
  | _ + 1, .opq _, h => h.elim
  | 0, .dic _, h => h.elim
  | _ + 1, .dic _, h => h.elim
  | 0, .ins _ _, h => h.elim
  | _ + 1, .ins _ _, h => h.elim
  | 0, .exc _ _, h => h.elim
  | _ + 1, .exc _ _, h => h.elim
  | 0, .lam _, h => h.elim
  | 0, .nk _ _ _, h => h.elim
  | _ + 1, .lam _, h => h.elim
  | _ + 1, .nk _ _ _, h => h.elim
end LW
set_option Elab.async false
set_option linter.all false
set_option maxRecDepth 100000
set_option maxHeartbeats 4000000
namespace EV
open PySem PySem.Spec PyProof.Rows L2
abbrev tupD : PC
  | [.lst xs], Q => Q (.tup xs)
  | [.tup xs], Q => Q (.tup xs)
  | _, _ => False
abbrev listD : PC
  | [.lst xs], Q => Q (.lst xs)
  | [.tup xs], Q => Q (.lst xs)
  | _, _ => False
def tupO : DC := fun O xs Q => tupD (xs.map (lk O)) Q
def listO : DC := fun O xs Q => listD (xs.map (lk O)) Q
section
variable {X : Cx} {B : Bo}
theorem tupD_mo {x : List D} {Q Q' : D → Prop} (q : ∀ d, Q d → Q' d) (z : tupD x Q) : tupD x Q' := by
  unfold tupD at z ⊢
  split at z
  · exact q _ z
  · exact q _ z
  · exact z
theorem listD_mo {x : List D} {Q Q' : D → Prop} (q : ∀ d, Q d → Q' d) (z : listD x Q) : listD x Q' := by
  unfold listD at z ⊢
  split at z
  · exact q _ z
  · exact q _ z
  · exact z
theorem one_of {P : List D → (D → Prop) → Prop} {K : PySem.W.Frag} {G : Hp} {O : Ow} {vs : List V} {ds : List D} {Q : D → Prop} (hP : ∀ xs Q, P xs Q → xs.length = 1) (r : RpL K G vs ds) (h : P (ds.map (lk O)) Q) : ∃ v d, vs = [v] ∧ Rp K G v d ∧ P [lk O d] Q := by
  have := hP _ _ h
  cases r with
  | nil => cases this
  | cons r1 r2 => cases r2 with
    | cons _ _ => simp at this
    | nil => exact ⟨_, _, rfl, r1, h⟩
theorem cd_tuple : CallD X B (.type "tuple") tupO := by
  refine ⟨fun O x Q Q' q z => tupD_mo q z, _, call_tuple_of, fun O G H vs ds Q g r h => ?_⟩
  obtain ⟨v, d, rfl, r1, h⟩ := one_of (P := tupD) (fun xs Q h => by unfold tupD at h; split at h <;> first | rfl | exact h.elim) r h
  have rx := lk_rp g r1
  generalize lk O d = d at rx h
  cases d <;> first | exact h.elim | skip
  · obtain ⟨a, vs, rfl, s, l⟩ := rx.lst g.sub
    exact ⟨a, vs, rfl, .inl ⟨.inl (.inl s), fun q n => h _ _ _ (Step.new g n) (new_tup g n l)⟩⟩
  · rcases rx with rx | ⟨p, _, z⟩
    · cases rx with
      | tup s l => exact ⟨_, _, rfl, .inr ⟨g.sub.sqT s, h _ _ _ (Step.refl g) (.tup s l)⟩⟩
    · exact z.elim
theorem cd_list : CallD X B (.type "list") listO := by
  refine ⟨fun O x Q Q' q z => listD_mo q z, _, call_list_of, fun O G H vs ds Q g r h => ?_⟩
  obtain ⟨v, d, rfl, r1, h⟩ := one_of (P := listD) (fun xs Q h => by unfold listD at h; split at h <;> first | rfl | exact h.elim) r h
  have rx := lk_rp g r1
  generalize lk O d = d at rx h
  cases d <;> first | exact h.elim | skip
  · obtain ⟨a, vs, rfl, s, l⟩ := rx.lst g.sub
    exact ⟨a, vs, rfl, .inl (.inl (.inl s)), fun q n => h _ _ _ (Step.new g n) (new_lst g n l)⟩
  · obtain ⟨a, vs, rfl, s, l⟩ := rx.tup g.sub
    exact ⟨a, vs, rfl, .inr s, fun q n => h _ _ _ (Step.new g n) (new_lst g n l)⟩
end
end EV
set_option Elab.async false
set_option linter.all false
set_option maxRecDepth 100000
set_option maxHeartbeats 4000000
set_option pp.maxSteps 400
namespace LW
open PySem PySem.Spec PyProof.Rows L2 EV
abbrev s_is_number : Stmt := topS 14
abbrev N_is_number : List Str := ["value", "least", "most"]
theorem sc_is_number : FnScope N_is_number ["value", "least", "most"] (defScope s_is_number) := ⟨rfl, rfl, rfl, by decide +kernel, rfl, by decide +kernel, by decide +kernel⟩
def isNum : D → Int → Int → Bool
  | .int i, a, b => decide (a ≤ i) && decide (i ≤ b)
  | _, _, _ => false
def numS : DSp := fun ds O Q _ => ∃ v a b, ds = [v, .int a, .int b] ∧ (tyD v).isSome = true ∧ Q (.bl (isNum v a b)) O
abbrev s_is_name : Stmt := topS 13
abbrev N_is_name : List Str := ["value", "letter"]
theorem sc_is_name : FnScope N_is_name ["value"] (defScope s_is_name) := ⟨rfl, rfl, rfl, by decide +kernel, rfl, by decide +kernel, by decide +kernel⟩
abbrev lettersT : Str := "abcdefghijklmnopqrstuvwxyz"
def isNm : D → Bool
  | .str y => decide (1 ≤ y.length) && decide (y.length ≤ 6) && (co y).all fun c => decide (c ∈ co lettersT)
  | _ => false
def lettB : D → D
  | .str z => .bl (decide ((co z).headD 0 ∈ co lettersT))
  | _ => .non
theorem lettB_one (c : Nat) : lettB (.str ⟨#[c]⟩) = .bl (decide (c ∈ co lettersT)) := by simp [lettB, co]
def nameS : DSp := fun ds O Q _ => ∃ v, ds = [v] ∧ (tyD v).isSome = true ∧ (∀ y, v = .str y → y.length ≤ sizeLine) ∧ Q (.bl (isNm v)) O
section
variable {P : Program} {w : World} {K : PySem.W.Frag} {mg : Str → Option Value} {base : Heap}
theorem ok_is_number {f : Addr} {fd : FuncData} (F : Fun K "is_number" "is_number" s_is_number f fd) (m_isinstance : mg "isinstance" = none) (m_bool : mg "bool" = none) (m_int : mg "int" = none) :
    FnOk P w K mg base CX0 1 f fd ["value", "least", "most"] (spD K numS) := by
  refine fn_pure F sc_is_number (fun ds O Q E h => ?_) (fun cdv A outer s H E hr =>
    (d_sone (d_ret (d_and (d_callB cd_isi rfl m_isinstance boot_isinstance (d_cons (d_var (i := 0) rfl (.inl rfl) (by decide) (by decide)) (d_cons (d_ty rfl m_int boot_int (by decide) (by decide)) d_nil rfl) rfl) (by decide) (by decide) rfl rfl) (d_and (d_not (d_callB cd_isi rfl m_isinstance boot_isinstance (d_cons (d_var (i := 0) rfl (.inl rfl) (by decide) (by decide)) (d_cons (d_ty rfl m_bool boot_bool (by decide) (by decide)) d_nil rfl) rfl) (by decide) (by decide) rfl rfl)) (d_one (d_chain od_le od_le (d_var (i := 1) rfl (.inl rfl) (by decide) (by decide)) (d_var (i := 0) rfl (.inl rfl) (by decide) (by decide)) (d_var (i := 2) rfl (.inl rfl) (by decide) (by decide)) (by with_unfolding_all rfl)))))))) (fun ds O Q E h => ?_) (fun ds O Q E h => h)
  · obtain ⟨v, a, b, rfl, _⟩ := h; rfl
  · obtain ⟨v, a, b, rfl, hv, q⟩ := h
    rw [show startD N_is_number [v, .int a, .int b] = [.sh v, .sh (.int a), .sh (.int b)] from rfl]
    cases v with
    | int i =>
      refine ⟨rfl, rfl, ?_⟩
      refine ⟨rfl, rfl, ?_⟩
      show bc (decide (a ≤ i)) _ _
      by_cases h : a ≤ i
      · rw [decide_eq_true h]
        simp only [isNum, decide_eq_true h, Bool.true_and] at q
        exact q
      · rw [decide_eq_false h]
        simp only [isNum, decide_eq_false h, Bool.false_and] at q
        exact q
    | bl b' => exact ⟨rfl, rfl, rfl, rfl, q⟩
    | non => exact ⟨rfl, rfl, q⟩
    | str => exact ⟨rfl, rfl, q⟩
    | lst => exact ⟨rfl, rfl, q⟩
    | tup => exact ⟨rfl, rfl, q⟩
    | dic => exact ⟨rfl, rfl, q⟩
    | opq => cases hv
    | ins => cases hv
    | exc => cases hv
    | lam => cases hv
    | nk => cases hv
theorem ok_is_name {f : Addr} {fd : FuncData} (F : Fun K "is_name" "is_name" s_is_name f fd) (m_isinstance : mg "isinstance" = none) (m_str : mg "str" = none) (m_len : mg "len" = none) (m_all : mg "all" = none)
    {tL tN : Tok} (M_LETTERS : mg "LETTERS" = some (.str lettersT tL)) (M_LONGEST_NAME : mg "LONGEST_NAME" = some (.int 6 tN)) :
    FnOk P w K mg base CX0 1 f fd ["value"] (spD K nameS) := by
  refine fn_pure F sc_is_name (fun ds O Q E h => ?_) (fun cdv A outer s H E hr =>
    (d_scons (d_ifS (DPW.pt (d_wor (d_tnot (d_test (d_callB cd_isi rfl m_isinstance boot_isinstance (d_cons (d_var (i := 0) rfl (.inl rfl) (by decide) (by decide)) (d_cons (d_ty rfl m_str boot_str (by decide) (by decide)) d_nil rfl) rfl) (by decide) (by decide) rfl rfl) (by intro _; rfl))) (d_or1 (d_tnot (d_tchain od_le od_le d_int (d_callB cd_len rfl m_len boot_len (d_cons (d_var (i := 0) rfl (.inl rfl) (by decide) (by decide)) d_nil rfl) (by decide) (by decide) rfl rfl) (d_globI rfl M_LONGEST_NAME (by decide)) (by with_unfolding_all rfl)))))) (d_sone (d_ret d_bl)) d_snil)
      (d_sone (d_ret (d_callB (cd_all rfl) rfl m_all boot_all (d_cons (d_lc rfl sc_is_name.nd (d_iter (d_var (i := 0) rfl (.inl rfl) (by decide) (by decide))) (blkOk_by (own := [("letter", 1)]) (N := N_is_name) (sc := defScope s_is_name) (by decide +kernel)) (fun _ _ _ _ _ => (dg_name (i := 1) sc_is_name.nd rfl (.inl rfl) (.inr rfl))) (fun _ _ _ _ _ => d_ifs0) (fun _ _ _ _ _ => (d_cmp (od_in (hu1 hr)) (d_var (i := 1) rfl (.inl rfl) (by decide) (by decide)) (d_globS rfl M_LETTERS (by decide)) rfl)) (by decide +kernel) (fun _ => rfl)) d_nil rfl) (by decide) (by decide) rfl rfl))))) (fun ds O Q E h => ?_) (fun ds O Q E h => h)
  · obtain ⟨v, rfl, _⟩ := h; rfl
  · obtain ⟨v, rfl, hv, hs, q⟩ := h
    rw [show startD N_is_name [v] = [.sh v, .un] from rfl]
    cases v with
    | str y =>
      have hl := hs y rfl
      refine ⟨rfl, rfl, ?_⟩
      refine ⟨hl, ?_⟩
      show bc (decide ((1 : Int) ≤ (y.length : Int))) _ _
      by_cases h1 : 1 ≤ y.length
      · rw [decide_eq_true (by omega)]
        show bc (!decide ((y.length : Int) ≤ 6)) _ _
        by_cases h2 : y.length ≤ 6
        · rw [decide_eq_true (by omega)]
          simp only [isNm, decide_eq_true h1, decide_eq_true h2, Bool.true_and] at q
          refine lcW_map trivial lettB (fun d md Qy hq => ?_) (by simp [charsD]; exact hl) ?_
          · obtain ⟨c, mc, rfl⟩ := List.mem_map.mp md
            have e := lettB_one c
            rw [e] at hq
            exact hq
          · rw [List.nil_append, charsD, List.map_map]
            rw [show (lettB ∘ fun c => D.str { cps := #[c] }) = fun c => .bl (decide (c ∈ co lettersT)) from funext lettB_one]
            show allD [.lst ((co y).map fun c => D.bl (decide (c ∈ co lettersT)))] (fun d => Q d O)
            refine allD_of (toBs_map (fun c : Nat => decide (c ∈ co lettersT)) _) ?_
            rw [List.all_map]
            exact q
        · rw [decide_eq_false (by omega)]
          simp only [isNm, decide_eq_false h2, Bool.and_false, Bool.false_and] at q
          exact q
      · rw [decide_eq_false (by omega)]
        simp only [isNm, decide_eq_false h1, Bool.false_and] at q
        exact q
    | int => exact ⟨rfl, rfl, q⟩
    | bl b' => exact ⟨rfl, rfl, q⟩
    | non => exact ⟨rfl, rfl, q⟩
    | lst => exact ⟨rfl, rfl, q⟩
    | tup => exact ⟨rfl, rfl, q⟩
    | dic => exact ⟨rfl, rfl, q⟩
    | opq => cases hv
    | ins => cases hv
    | exc => cases hv
    | lam => cases hv
    | nk => cases hv
end
end LW
set_option Elab.async false
set_option linter.all false
set_option maxRecDepth 100000
set_option maxHeartbeats 4000000
namespace LamX
open PySem PySem.Spec PyProof.Rows L2
/-- a lambda of the def at X: no cell of its own; its own parameters are no names of X's -/
structure LamW (N : List Str) (sc scope : Scope) : Prop where
  kind : scope.kind = .function
  co : scope.isCoroutine = false
  gen : scope.isGenerator = false
  cell : ∀ y ∈ scope.names, y.2 ≠ .cell
  own : ∀ y ∈ scope.names, y.2 = .local → y.1 ∉ N
  free : ∀ y ∈ scope.names, y.2 = .free → sc.names.lookup y.1 = some .cell ∨ sc.names.lookup y.1 = some .free
theorem LamW.has {X : Cx} {scope : Scope} (L : LamW X.N X.env.scope scope) (ok : X.Ok) : ∀ y ∈ scope.names, y.2 = .free → ∃ c, X.env.cells.lookup y.1 = some c := fun y hy e => by
  rcases L.free y hy e with k | k
  · exact ok.has _ (.inl k)
  · exact ok.has _ (.inr k)
end LamX
set_option Elab.async false
set_option linter.all false
set_option maxRecDepth 100000
set_option maxHeartbeats 4000000
namespace LamX
open PySem PySem.Spec PyProof.Rows L2
end LamX
set_option Elab.async false
set_option linter.all false
set_option maxRecDepth 100000
set_option maxHeartbeats 4000000
namespace LamX
open PySem PySem.Spec PyProof.Rows L2
abbrev Cv := Addr → Option Obj
/-- the entries of cv stand in H -/
def Has (H : Hp) (cv : Cv) : Prop := ∀ a o, cv a = some o → H a = some (.frz o (.own 0))
end LamX
set_option Elab.async false
set_option linter.all false
set_option maxRecDepth 100000
set_option maxHeartbeats 4000000
namespace L2
open PySem PySem.Spec PyProof.Rows PySem.XO
section
variable {X : Cx} {C : Addr} {code : Str} {names : List Str} {n : Nat} {x : Str} {a : Expr} {es : List Expr} {t : TA} {p pos : Pos}
def tMkE (C : Addr) (code : Str) (names : List Str) (t : TA) : St → Hp → XK → Prop := fun σ H Q => t σ H fun vs H1 => vs.length = names.length ∧ ∀ d, H1 d = none → Q (.ref C) (some d) (upd H1 d (.xd (errF code names vs)))
theorem mk_run {pins : List (Addr × Obj)} {σ : St} {H : Hp} {s : Shared} {Q : XK} {us : List Value} {vs : List V} (Er : Err X.prog X.w X.K X.mg X.base n C code names) (hr : Room n X.A) (I : Inv X pins σ H s) (r : Vals vs us) (hl : vs.length = names.length)
    (h : ∀ d, H d = none → Q (.ref C) (some d) (upd H d (.xd (errF code names vs)))) : wpAny (model X.prog X.w) X.A (call (.ref C) us) (MkP X pins σ Q) X.xe s := by
  refine wpAny_call (Er.run I.ok.mod us (by rw [← r.length]; exact hl) X.A _ s I.bk I.nolimit (by have := hr.dp; omega) fun h' tk e d mA t hm M => ?_)
  obtain ⟨t1, ho⟩ := M.obj
  show MkP X pins σ Q (.ref e) { s with heap := h', toks := tk }
  obtain ⟨G', g1, g2⟩ := restrict h' fun b => decide (b ≠ e)
  have gk : ∀ b, b ≠ e → G'.get? b = h'.get? b := fun b hb => g1 b (decide_eq_true hb)
  have ge : G'.get? e = none := g2 e (by simp)
  have old : ∀ b o, s.heap.get? b = some o → G'.get? b = some o := fun b o q => (gk b (Nat.ne_of_lt (Nat.lt_of_lt_of_le (Heap.lt_size q) M.new))).trans (M.keep b o q)
  have ob : ObjOk X.prog X.w (upd H d (.xd (errF code names vs))) G' d (.xd (errF code names vs)) :=
    ⟨mA, M.ns.at (fun o q => (gk d M.dne).trans q), fun f => by rw [hm f]; exact relO_err r⟩
  have J : Inv X pins σ (upd H d (.xd (errF code names vs))) { s with heap := G', toks := tk } := I.laid (t' := tk) old M.dbig ob
  refine ⟨e, _, _, { s with heap := G', toks := tk }, _, .ref C, some d, rfl, J, fun b o q => ?_, ge, ho, ⟨rfl, rfl⟩, rfl, rfl, ?_, rfl, I.bare, raises_own Er.exC Er.tyC, h d (I.hok.fresh M.dbig)⟩
  · by_cases hb : b = e
    · have q' : G'.get? b = some o := q
      rw [hb, ge] at q'; cases q'
    · have q' : G'.get? b = some o := q
      rw [gk b hb] at q'
      exact q'
  · rw [upd_ne (fun z => M.dne z.symm)]
    exact I.hok.fresh M.new
theorem pmk_err (Er : Err X.prog X.w X.K X.mg X.base n C code names) (hr : Room n X.A) (hg : Gl X x) (hm : X.mg x = some (.ref C)) (ha : PA X (a :: es) t) (hdb : (x == ("__debug__" : Str)) = false) (he : starEach (a :: es) X.env = (false, eval a X.env) :: starEach es X.env) (hpl : (backTo pos (starEach es X.env)).any (·.1) = false) :
    PMk X (.Call (.Name x p) (a :: es) [] pos) (tMkE C code names t) := by
  intro pins s σ H Q I h
  refine wpAny_Call_Name_kw (ld_glob I hg hm ?_ hdb)
  refine PySem.W.callWith_K (h₀ := X.base) I.ok.mod.kin Er.kp (thn (ha.run pos pins s σ H _ I h) fun us s1 ⟨vs, H1, I1, r, hl, q⟩ => ⟨I1.kIn, ?_⟩) he hpl
  exact mk_run Er hr I1 r hl q
end
end L2
namespace EV
open PySem PySem.Spec PyProof.Rows L2
section
variable {X : Cx} {L : Pl} {C : Addr} {code : Str} {names : List Str} {n : Nat} {x : Str} {a : Expr} {es : List Expr} {mA : DA} {p pos pos2 : Pos}
variable {K : PySem.W.Frag} {B : Bo} {O : Ow} {G H : Hp}
abbrev Tk (X : Cx) (L : Pl) : Prop := Takes X (fun cls d σ H => L.W σ cls d H)
abbrev dRaise (C : Addr) (code : Str) (names : List Str) (mA : DA) : DS := fun A ρ O => mA ρ O (fun ds O1 => ds.length = names.length ∧ A.ex (C, errD code names ds) ρ O1) (fun x O1 => A.ex x ρ O1)
theorem exd_new {d : Addr} {vs : List V} {ds : List D} (g : Good K B O G H) (r : RpL K G vs ds) (nd : H d = none) :
    Step K B O G H O (upd G d (.xd (errF code names vs))) (upd H d (.xd (errF code names vs))) ∧ RpF K (upd G d (.xd (errF code names vs))) (errF code names vs) (errD code names ds) := by
  have s1 := Step.new (o := .xd (errF code names vs)) g nd
  exact ⟨s1, .cons (.str _) (RpF.zip (r.mono s1.grow))⟩
theorem d_raise (hc : X.calm = true) (tk : Tk X L) (Er : Err X.prog X.w X.K X.mg X.base n C code names) (hr : Room n X.A) (hg : Gl X x) (hm : X.mg x = some (.ref C)) (ha : DPA X L (a :: es) mA) (hdb : (x == ("__debug__" : Str)) = false) (he : starEach (a :: es) X.env = (false, eval a X.env) :: starEach es X.env) (hpl : (backTo pos (starEach es X.env)).any (·.1) = false) :
    DPS X L (.Raise (some (.Call (.Name x p) (a :: es) [] pos)) none pos2) (dRaise C code names mA) := by
  refine ⟨fun A A' ρ O l z => ha.mo _ _ _ _ _ _ (fun d O1 y => ⟨y.1, l.ex _ _ _ y.2⟩) (fun x _ y => l.ex _ _ _ y) z, ps_imp (ps_raise hc tk (pmk_err Er hr hg hm ha.run hdb he hpl)) fun Dn σ H ⟨G, O, ρ, g, rs, q⟩ => ?_⟩
  refine upAE ha.mo g rs q fun ds vs O1 G1 H1 q1 s1 r1 => ⟨by rw [r1.length]; exact q1.1, fun d nd => ?_⟩
  obtain ⟨s2, r2⟩ := exd_new (code := code) (names := names) s1.good r1 nd
  exact q1.2 σ d _ _ _ (s1.trans s2) (rs.step (s1.trans s2)) upd_same r2
end
section
variable {P : Program} {w : World} {K : PySem.W.Frag} {mg : Str → Option Value} {base : Heap}
theorem tk_pass {X : Cx} {L : Pl} (tk : Tk X L) (σ : L2.St) : PassesAt (L2.CX X.prog X.w) X σ (L.W σ) := passAt (W := fun cls d σ H => L.W σ cls d H) tk σ
end
end EV
set_option Elab.async false
set_option linter.all false
set_option maxRecDepth 100000
set_option maxHeartbeats 4000000
namespace EV
open PySem PySem.Spec PyProof.Rows L2 LamX
end EV
set_option Elab.async false
set_option linter.all false
set_option maxRecDepth 100000
set_option maxHeartbeats 4000000
namespace EV
open PySem PySem.Spec PyProof.Rows L2 LamX
section
variable {K : PySem.W.Frag} {B : Bo} {O O' : Ow} {G H G' H' : Hp} {cv : Cv}
theorem Has.sub (s : Sub G H) (h : Has G cv) : Has H cv := fun a o e => s _ _ (h a o e)
end
end EV
set_option Elab.async false
set_option linter.all false
set_option maxRecDepth 100000
set_option maxHeartbeats 4000000
namespace EV
open PySem PySem.Spec PyProof.Rows L2 LamX
end EV
set_option Elab.async false
set_option linter.all false
set_option maxRecDepth 100000
set_option maxHeartbeats 4000000
namespace EV
open PySem PySem.Spec PyProof.Rows L2 LamX
end EV
set_option Elab.async false
set_option linter.all false
set_option maxRecDepth 100000
set_option maxHeartbeats 4000000
namespace L2
open PySem PySem.Spec PyProof.Rows
end L2
set_option Elab.async false
set_option linter.all false
set_option maxRecDepth 100000
set_option maxHeartbeats 4000000
namespace L2
open PySem PySem.Spec PyProof.Rows
end L2
namespace EV
open PySem PySem.Spec PyProof.Rows L2 LamX
end EV
set_option Elab.async false
set_option linter.all false
set_option maxRecDepth 100000
set_option maxHeartbeats 4000000
namespace EV
open PySem PySem.Spec PyProof.Rows L2 LamX
end EV
set_option Elab.async false
set_option linter.all false
set_option maxRecDepth 100000
set_option maxHeartbeats 4000000
namespace EV
open PySem PySem.Spec PyProof.Rows L2 LamX
end EV
set_option Elab.async false
set_option linter.all false
set_option maxRecDepth 100000
set_option maxHeartbeats 4000000
namespace EV
open PySem PySem.Spec PyProof.Rows L2 LamX
end EV
set_option Elab.async false
set_option linter.all false
set_option maxRecDepth 100000
set_option maxHeartbeats 4000000
namespace EV
open PySem PySem.Spec PyProof.Rows L2
def kD : Key → D
  | .inl i => .int i
  | .inr x => .str x
def valD (kds : List (Key × D)) (k : Key) : Option D := (kds.find? fun kv => decide (kv.1 = k)).map (·.2)
def putKD (kds : List (Key × D)) (k : Key) (v : D) : List (Key × D) :=
  if (kds.any fun kv => decide (kv.1 = k)) = true then kds.map (fun kv => if kv.1 = k then (kv.1, v) else kv) else kds ++ [(k, v)]
section
variable {K : PySem.W.Frag} {G H : Hp} {O : Ow} {B : Bo}
theorem kD_rp {k : Key} {v : V} (r : Rp K G v (kD k)) : v = kV k := by
  cases k <;> cases r <;> rfl
theorem RpK.length : ∀ {fs : List (Key × V)} {ds : List (Key × D)}, RpK K G fs ds → fs.length = ds.length
  | _, _, .nil => rfl
  | _, _, .cons _ r => congrArg (· + 1) (RpK.length r)
theorem RpK.val {k : Key} : ∀ {fs : List (Key × V)} {ds : List (Key × D)}, RpK K G fs ds → (∀ d, valD ds k = some d → ∃ v, valV fs k = some v ∧ Rp K G v d) ∧ (valD ds k = none → valV fs k = none)
  | _, _, .nil => ⟨fun d e => (nomatch e), fun _ => rfl⟩
  | _, _, .cons (k := j) (d := d0) (ds := ds) r t => by
    by_cases e : j = k
    · refine ⟨fun d h => ?_, fun h => ?_⟩
      · have : valD ((j, d0) :: ds) k = some d0 := by simp [valD, List.find?_cons, e]
        rw [this] at h; cases h
        exact ⟨_, valV_pos e, r⟩
      · have : valD ((j, d0) :: ds) k = some d0 := by simp [valD, List.find?_cons, e]
        rw [this] at h; cases h
    · have h1 : valD ((j, d0) :: ds) k = valD ds k := by simp [valD, List.find?_cons, e]
      have ih := RpK.val (k := k) t
      rw [h1]
      refine ⟨fun d h => ?_, fun h => ?_⟩
      · obtain ⟨v, a, b⟩ := ih.1 d h
        exact ⟨v, by rw [valV_neg e]; exact a, b⟩
      · rw [valV_neg e]; exact ih.2 h
theorem RpK.any {k : Key} : ∀ {fs : List (Key × V)} {ds : List (Key × D)}, RpK K G fs ds → (fs.any fun kv => decide (kv.1 = k)) = (ds.any fun kv => decide (kv.1 = k))
  | _, _, .nil => rfl
  | _, _, .cons r t => by simp only [List.any_cons, RpK.any t]
theorem RpK.app : ∀ {xs ys : List (Key × V)} {us ws : List (Key × D)}, RpK K G xs us → RpK K G ys ws → RpK K G (xs ++ ys) (us ++ ws)
  | _, _, _, _, .nil, s => s
  | _, _, _, _, .cons r t, s => .cons r (RpK.app t s)
theorem RpK.mapv {k : Key} {v : V} {d : D} (r : Rp K G v d) : ∀ {fs : List (Key × V)} {ds : List (Key × D)}, RpK K G fs ds → RpK K G (fs.map fun kv => if kv.1 = k then (kv.1, v) else kv) (ds.map fun kv => if kv.1 = k then (kv.1, d) else kv)
  | _, _, .nil => .nil
  | _, _, .cons (k := j) r0 t => by
    simp only [List.map_cons]
    by_cases e : j = k
    · simp only [if_pos e]; exact .cons r (RpK.mapv r t)
    · simp only [if_neg e]; exact .cons r0 (RpK.mapv r t)
theorem RpK.put {k : Key} {v : V} {d : D} {fs : List (Key × V)} {ds : List (Key × D)} (r : Rp K G v d) (t : RpK K G fs ds) : RpK K G (putK fs k v) (putKD ds k d) := by
  unfold putK putKD
  rw [t.any]
  split
  · exact RpK.mapv r t
  · exact t.app (.cons r .nil)
end
section
variable {X : Cx} {L : Pl} {a b c e f o i : Expr} {m ma mb mc : DE} {pos pos' apos cpos : Pos}
abbrev dDNew : DE := fun _ O Q _ => ∀ p, O p = none → Q (.opq (.ref p)) (oset O p (.dic []))
theorem d_dnew : DPE X L (.Dict [] [] pos) dDNew :=
  ⟨fun ρ O Q Q' E E' q _ x p n => q _ _ (x p n), pe_imp pe_dnewK fun σ H Q ⟨G, O, ρ, g, rs, q⟩ p np => q p (g.fresh np) _ _ _ (new_own g np ⟨[], upd_same, .nil⟩) (.opq _)⟩
/-- what a dict has at a key -/
def atDic (x y : D) (Q : Option D → Prop) : Prop := match x with
  | .dic kds => ∃ k, y = kD k ∧ Q (valD kds k)
  | _ => False
theorem atDic_mo {x y : D} {Q Q' : Option D → Prop} (h : ∀ d, Q d → Q' d) (z : atDic x y Q) : atDic x y Q' := by
  unfold atDic at z ⊢
  split at z
  · obtain ⟨k, e, z⟩ := z; exact ⟨k, e, h _ z⟩
  · exact z
theorem atDic_run {K : PySem.W.Frag} {B : Bo} {O : Ow} {G H : Hp} {x y : D} {vx vy : V} {Q : Option D → Prop} (g : Good K B O G H) (rx : Rp K G vx x) (ry : Rp K G vy y) (h : atDic (lk O x) y Q) :
    ∃ (p : Addr) (r : Option V) (d : Option D), vx = .ref p ∧ DGet H p vy r ∧ Q d ∧ (∀ d', d = some d' → ∃ v, r = some v ∧ Rp K G v d') ∧ (d = none → r = none) := by
  have rr := lk_rp g rx
  generalize lk O x = x' at rr h
  unfold atDic at h
  split at h
  · obtain ⟨k, rfl, h⟩ := h
    obtain ⟨p, vs, rfl, hp, rk⟩ := rr.dic g.sub
    have := kD_rp ry
    subst this
    exact ⟨p, _, _, rfl, .inl ⟨_, k, hp, rfl, rfl⟩, h, rk.val.1, rk.val.2⟩
  · exact h.elim
/-- x is a dict, here and behind what follows -/
def isDic (x : D) : Prop := match x with
  | .dic _ => True
  | _ => False
theorem isDic_run {K : PySem.W.Frag} {B : Bo} {O : Ow} {G H : Hp} {x : D} {vx : V} (g : Good K B O G H) (rx : Rp K G vx x) (h : isDic (lk O x)) : ∃ p, vx = .ref p ∧ IsD H p := by
  have rr := lk_rp g rx
  generalize lk O x = x' at rr h
  unfold isDic at h
  split at h
  · obtain ⟨p, vs, rfl, hp, rk⟩ := rr.dic g.sub
    exact ⟨p, rfl, .inl ⟨_, hp⟩⟩
  · exact h.elim
abbrev dDGet2 (ma mb mc : DE) : DE := fun ρ O Q E => ma ρ O (fun x O1 => isDic (lk O1 x) ∧ mb ρ O1 (fun y O2 => mc ρ O2 (fun z O3 => atDic (lk O3 x) y fun d => Q (d.getD z) O3) E) E) E
theorem d_dget2 (hu : X.A.units + 1 < cLine) (ha : DPE X L a ma) (hb : DPE X L b mb) (hc : DPE X L c mc) (hm : M2 X a "get" apos b c cpos) : DPE X L (.Call (.Attribute a "get" apos) [b, c] [] cpos) (dDGet2 ma mb mc) := by
  refine ⟨fun ρ O Q Q' E E' q hx x => ha.mo ρ _ _ _ _ _ (fun _ _ z => ⟨z.1, hb.mo ρ _ _ _ _ _ (fun _ _ y => hc.mo ρ _ _ _ _ _ (fun _ _ y => atDic_mo (fun d w => q _ _ w) y) hx y) hx z.2⟩) hx x, pe_imp (pe_dget2 hu ha.run hb.run hc.run hm) fun σ H Q ⟨G, O, ρ, g, rs, q⟩ => ?_⟩
  refine up_of ha.mo g rs q fun x vx O1 G1 H1 q1 s1 r1 => ?_
  obtain ⟨p, rfl, hd⟩ := isDic_run s1.good r1 q1.1
  refine ⟨p, rfl, hd, ?_⟩
  refine up_of hb.mo s1.good (rs.step s1) (mo_step hb.mo s1 q1.2) fun y vy O2 G2 H2 q2 s2 r2 => ?_
  have s12 := s1.trans s2
  refine up_of hc.mo s2.good (rs.step s12) (mo_step hc.mo s12 q2) fun z vz O3 G3 H3 q3 s3 r3 => ?_
  obtain ⟨p', r, d, ep, hg, hq, h1, h2⟩ := atDic_run s3.good (r1.mono (s2.trans s3).grow) (r2.mono s3.grow) q3
  cases ep
  cases d with
  | none => cases h2 rfl; exact ⟨none, hg, hq _ _ _ (s12.trans s3) r3⟩
  | some d =>
    obtain ⟨v, rfl, rv⟩ := h1 d rfl
    exact ⟨some v, hg, hq _ _ _ (s12.trans s3) rv⟩
/-- d[k] = v, d a handle -/
abbrev dDPut (ma mb mv : DE) : DS := fun A ρ O => mv ρ O (fun v O1 => ma ρ O1 (fun x O2 => mb ρ O2 (fun y O3 => match x with
  | .opq (.ref p) => ∃ kds k, O3 p = some (.dic kds) ∧ y = kD k ∧ kds.length < sizeLine ∧ A.nx ρ (oset O3 p (.dic (putKD kds k v)))
  | _ => False) (fun x O => A.ex x ρ O)) (fun x O => A.ex x ρ O)) (fun x O => A.ex x ρ O)
theorem d_dput (hu : X.A.units + 1 < cLine) (ha : DPE X L a ma) (hb : DPE X L b mb) (hv : DPE X L c mc) (hs : swapsWith c (some (.Subscript a b pos')) pos.line X.env = pure false) : DPS X L (.Assign [.Subscript a b pos'] c pos) (dDPut ma mb mc) := by
  refine ⟨fun A A' ρ O l z => hv.mo _ _ _ _ _ _ (fun v _ y => ha.mo _ _ _ _ _ _ (fun x _ y => hb.mo _ _ _ _ _ _ (fun k _ y => ?_) (fun x _ y => l.ex _ _ _ y) y) (fun x _ y => l.ex _ _ _ y) y) (fun x _ y => l.ex _ _ _ y) z, ps_imp (ps_dput hu ha.run hb.run hv.run hs) fun Dn σ H ⟨G, O, ρ, g, rs, q⟩ => ?_⟩
  · skip
    split at y
    · obtain ⟨kds, k, e1, e2, e3, z⟩ := y
      exact ⟨kds, k, e1, e2, e3, l.nx _ _ z⟩
    · exact y
  refine upE hv.mo g rs q fun v vv O1 G1 H1 q1 s1 r1 => ?_
  refine upE ha.mo s1.good (rs.step s1) (ha.mo _ _ _ _ _ _ (fun x O2 y => hb.mo _ _ _ _ _ _ (fun k O3 y => y) (fun x O z => (dn_step s1).ex x ρ O z) y) (fun x O z => (dn_step s1).ex x ρ O z) q1) fun x vx O2 G2 H2 q2 s2 r2 => ?_
  have s12 := s1.trans s2
  refine upE hb.mo s2.good (rs.step s12) (hb.mo _ _ _ _ _ _ (fun k O3 y => y) (fun x O z => (dn_step s2).ex x ρ O z) q2) fun y vy O3 G3 H3 q3 s3 r3 => ?_
  have s13 := s12.trans s3
  split at q3
  · rename_i p
    obtain ⟨kds, k, eo, rfl, hl, z⟩ := q3
    cases r2
    have := kD_rp r3
    subst this
    obtain ⟨nG, nb, vs, hp, rk⟩ := s3.good.own p _ eo
    have rv := r1.mono (s2.trans s3).grow
    have st := Step.put (o := .dK (putK vs k vv)) (d := .dic (putKD kds k v)) s3.good nG nb ⟨_, upd_same, rk.put rv⟩ (.inl (by rw [eo]; exact Option.some_ne_none _))
    exact ⟨p, _, rfl, DPut.k hp (by rw [rk.length]; exact hl), z _ _ _ (s13.trans st) (rs.step (s13.trans st))⟩
  · exact q3.elim
end
end EV
set_option Elab.async false
set_option linter.all false
set_option maxRecDepth 100000
set_option maxHeartbeats 4000000
namespace EV
open PySem PySem.Spec PyProof.Rows L2
def OSub (O1 O : Ow) : Prop := ∀ p d, O1 p = some d → O p = some d
theorem OSub.refl (O : Ow) : OSub O O := fun _ _ h => h
theorem OSub.trans {A B C : Ow} (a : OSub A B) (b : OSub B C) : OSub A C := fun p d h => b p d (a p d h)
theorem OSub.new {O : Ow} {p : Addr} {d : D} (n : O p = none) : OSub O (oset O p d) := fun q x h => by
  rw [oset_ne (fun e => by rw [e, n] at h; cases h)]; exact h
theorem OSub.none {O1 O : Ow} (s : OSub O1 O) {p : Addr} (h : O p = none) : O1 p = none := by
  cases e : O1 p with
  | none => rfl
  | some d => rw [s p d e] at h; cases h
def frg {α : Type} (Q : α → Ow → Prop) : α → Ow → Prop := fun d O => ∃ O1, OSub O1 O ∧ Q d O1
theorem frg.of {α : Type} {Q : α → Ow → Prop} {d : α} {O : Ow} (h : Q d O) : frg Q d O := ⟨O, OSub.refl O, h⟩
section
variable {K : PySem.W.Frag} {B : Bo} {O O' O1 : Ow} {G H G' H' : Hp}
theorem Good.frg (s : OSub O1 O) (g : Good K B O G H) : Good K B O1 G H := ⟨g.sub, g.box, g.amb, fun p d e => g.own p d (s p d e)⟩
theorem Step.frg (s : OSub O1 O') (t : Step K B O G H O' G' H') : Step K B O G H O1 G' H' :=
  ⟨t.grow, t.good.frg s, t.keep, fun a o h g n => ⟨(t.hid a o h g n).1, s.none (t.hid a o h g n).2⟩, t.still⟩
theorem kv.frg {Q : VK} {d : D} (h : frg (kv K B O G H Q) d O') : kv K B O G H Q d O' := by
  obtain ⟨O1, s, h⟩ := h
  exact fun v G' H' t r => h v G' H' (t.frg s) r
theorem kx.frg {E : XK} {x : Xc} (h : frg (kx K B O G H E) x O') : kx K B O G H E x O' := by
  obtain ⟨O1, s, h⟩ := h
  exact fun d fs G' H' t a r => h d fs G' H' (t.frg s) a r
theorem frg_mo {α : Type} {Q Q' : α → Ow → Prop} (q : ∀ d O, Q d O → Q' d O) {d : α} {O : Ow} (h : EV.frg Q d O) : EV.frg Q' d O := by
  obtain ⟨O1, s, h⟩ := h
  exact ⟨O1, s, q _ _ h⟩
/-- C(..), shown; what was begun is let go where it fails -/
def mkG (C : Addr) (sp : DSp) (ds : List D) (O : Ow) (Q : QD) (E : QX) : Prop := ∀ p, O p = none → spM sp (.opq (.ref p) :: ds) (oset O p (.ins C [])) (fun d O2 => d = .non ∧ ∃ C' fs, O2 p = some (.ins C' fs) ∧ Q (.ins C' fs) (odel O2 p)) (frg E)
theorem mkG_mo {C : Addr} {sp : DSp} {ds : List D} {Q Q' : QD} {E E' : QX} (q : ∀ d O, Q d O → Q' d O) (x : ∀ d O, E d O → E' d O) (h : mkG C sp ds O Q E) : mkG C sp ds O Q' E' := fun p n => spM_mo (fun _ _ z => ⟨z.1, let ⟨y, y', a, b⟩ := z.2; ⟨y, y', a, q _ _ b⟩⟩) (fun _ _ z => frg_mo x z) (h p n)
theorem run_mkG {C x dx : Addr} {sp : DSp} {vs : List V} {ds : List D} {Q : VK} {E : XK} (g : Good K B O G H) (r : RpL K G vs ds) (nx : H x = none) (nd : H dx = none) (hd : dx ≠ x) (h : mkG C sp ds O (kv K B O G H Q) (kx K B O G H E)) :
    spD K sp (.ref x :: vs) (upd (upd H dx (.own x)) x (.ins C dx [])) (fun v H' => v = .non ∧ Q (.ref x) H') E := by
  refine run_mkF g r nx nd hd fun p n => spM_mo (fun _ _ z => z) (fun _ _ z => kx.frg z) (h p n)
end
section
variable {X : Cx} {L : Pl} {e : Expr} {es : List Expr} {mA mK : DA} {pos p : Pos}
theorem d_makeG {CX : CXT} {k n : Nat} {C f : Addr} {fd : FuncData} {ps ks : List Str} {sp : DSp} {x : Str} {E : XK} {kws : List Keyword} {g : List Value → List Value → List Value} {gV : List V → List V → List V} {gD : List D → List D → List D} (hE : ∀ σ, L.W σ = E) (M : Mk X.K C f) (Fn : FnOk X.prog X.w X.K X.mg X.base CX k f fd ps (spD X.K sp)) (hr : Room (k + 1) X.A) (hg : Gl X x) (hm : X.mg x = some (.ref C)) (hb : KBn X.K fd ps (n + 1) ks g gV)
    (hgD : ∀ (K : PySem.W.Frag) (G : Hp) (v : V) (vs zs : List V) (ds es : List D), RpL K G vs ds → RpL K G zs es → vs.length = n → zs.length = ks.length → ∃ ws, gV (v :: vs) zs = v :: ws ∧ RpL K G ws (gD ds es)) (hx : Passes CX X E)
    (ha : DPA X L (e :: es) mA) (hk : DPK X L kws mK) (hall : (backToKw pos (keywordEach kws X.env)).all (·.1.isSome) = true) (hks : (backToKw pos (keywordEach kws X.env)).filterMap (·.1) = ks) (hdb : (x == ("__debug__" : Str)) = false)
    (he : starEach (e :: es) X.env = (false, eval e X.env) :: starEach es X.env) (hpl : ((backTo pos (starEach (e :: es) X.env)).any (·.1) || (backToKw pos (keywordEach kws X.env)).any (·.1.isNone)) = false) :
    DPE X L (.Call (.Name x p) (e :: es) kws pos) (dMkK C n ks.length (fun ds zs _ => mkG C sp (gD ds zs)) mA mK) := by
  refine ⟨fun ρ O Q Q' E E' q hx x => ha.mo ρ _ _ _ _ _ (fun _ _ z => hk.mo ρ _ _ _ _ _ (fun _ _ y => ⟨y.1, y.2.1, mkG_mo q hx y.2.2⟩) hx z) hx x, pe_imp (pe_makeK M Fn hr hg hm hb hx ha.run hk.run hall hks hdb he hpl) fun σ H Q ⟨G, O, ρ, g, rs, q⟩ => ?_⟩
  refine upA_of ha.mo g rs q fun xs vs O1 G1 H1 q1 s1 r1 => ?_
  refine upA_of hk.mo s1.good (rs.step s1) (mo_step hk.mo s1 q1) fun zs ws O2 G2 H2 q2 s2 r2 => ?_
  obtain ⟨l1, l2, q2⟩ := q2
  refine ⟨by rw [r1.length]; exact l1, by rw [r2.length]; exact l2, fun x dx nx nd hd => ?_⟩
  obtain ⟨us, e1, r3⟩ := hgD _ _ (.ref x) _ _ _ _ (r1.mono s2.grow) r2 (by rw [r1.length]; exact l1) (by rw [r2.length]; exact l2)
  rw [e1]
  have s12 := s1.trans s2
  exact run_mkG s2.good r3 nx nd hd (mkG_mo (fun _ _ z => z.step s12) (fun _ _ z => by rw [hE] at z; exact z.step s12) q2)
end
section
variable {P : Program} {w : World} {K : PySem.W.Frag} {mg : Str → Option Value} {base : Heap}
theorem fn_excF {x qual : Str} {st : Stmt} {f : Addr} {fd : FuncData} {N ps : List Str} {k : Nat} {sp : DSp} {ms : DS} (Fn : Fun K x qual st f fd) (S : FnScope N ps (defScope st)) (len : ∀ ds O Q E, sp ds O Q E → ds.length = ps.length)
    (hb : ∀ (cdv : Value) (A : Around) (outer : List Env) (s : Shared) (H : Hp) (E : XK), Room k (A.deeper (envOfC qual (defScope st) s.heap.objs.size f cdv)) → Tk (cxOf (L2.CX P w) P w K mg base N qual (defScope st) f cdv A outer s H E) ⟨bo0, fun _ => E⟩ →
      DPSs (cxOf (L2.CX P w) P w K mg base N qual (defScope st) f cdv A outer s H E) ⟨bo0, fun _ => E⟩ (defBody st) ms)
    (h : ∀ ds O Q E, sp ds O Q E → ms (endsD (frg Q) (frg E)) (startD N ds) O) : FnOk P w K mg base (L2.CX P w) (k + 1) f fd ps (spD K sp) := by
  refine Fn.okX S (fun vs H Q E ⟨G, O, ds, g, r, Q0, E0, h0, _⟩ => ?_) (fun cdv A outer s H vs Q E hr ⟨G, O, ds, g, r, Q0, E0, h0, hq, hx⟩ => ?_)
  · rw [r.length]; exact len _ _ _ _ h0
  · have b := hb cdv A outer s H E hr (takes_of rfl rfl rfl rfl)
    refine ⟨_, b.run, G, O, startD N ds, g, start_rp r, b.mo (endsD (frg Q0) (frg E0)) _ _ _ ⟨fun ρ O1 z σ' G' H' s _ => kv.frg (frg_mo hq z) _ G' H' s .non, fun d O1 z v G' H' s rv => kv.frg (frg_mo hq z) v G' H' s rv, fun _ _ z => z.elim, fun _ _ z => z.elim, fun x ρ _ z σ' d fs G' H' s _ a rf => kx.frg (frg_mo hx z) d fs G' H' s a rf⟩ (h ds O Q0 E0 h0)⟩
end
end EV
set_option Elab.async false
set_option linter.all false
set_option maxRecDepth 100000
set_option maxHeartbeats 4000000
namespace EV
open PySem PySem.Spec PyProof.Rows L2 LamX
section
variable {X : Cx} {L : Pl}
theorem passF {P : Program} {w : World} : Passes (L2.CX P w) X (fun _ _ _ => False) := fun _ _ _ _ _ _ _ ⟨_, _, _, _, _, _, _, _, _, _, _, _, h⟩ => h.elim
end
end EV
set_option Elab.async false
set_option linter.all false
set_option maxRecDepth 100000
set_option maxHeartbeats 4000000
namespace EV
open PySem PySem.Spec PyProof.Rows L2 StX
end EV
set_option Elab.async false
set_option linter.all false
set_option maxRecDepth 100000
set_option maxHeartbeats 4000000
namespace EV
open PySem PySem.Spec PyProof.Rows L2
end EV
set_option Elab.async false
set_option linter.all false
set_option maxRecDepth 100000
set_option maxHeartbeats 4000000
namespace EV
open PySem PySem.Spec PyProof.Rows L2
/-- what is gathered so far, at Dd -/
structure Gth (K : PySem.W.Frag) (B : Bo) (O : Ow) (G H : Hp) (Dd : Addr) (O1 : Ow) (G1 H1 : Hp) (acc : List D) (vacc : List V) : Prop where
  st : Step K B O G H O1 G1 H1
  gD : G1 Dd = none
  oD : O1 Dd = none
  hD : H1 Dd = some (.lst vacc)
  ra : RpL K G1 vacc acc
section
variable {K : PySem.W.Frag} {B : Bo} {O O1 O2 : Ow} {G H G1 H1 G2 H2 : Hp} {Dd : Addr} {acc : List D} {vacc : List V}
theorem Gth.step (nb : ¬ Hid B Dd) (g : Gth K B O G H Dd O1 G1 H1 acc vacc) (s : Step K B O1 G1 H1 O2 G2 H2) : Gth K B O G H Dd O2 G2 H2 acc vacc :=
  ⟨g.st.trans s, (s.hid _ _ g.hD g.gD g.oD).1, (s.hid _ _ g.hD g.gD g.oD).2, s.keep _ _ g.hD nb g.oD, g.ra.mono s.grow⟩
theorem Gth.lay (nb : ¬ Hid B Dd) (nH : H Dd = none) (st : Step K B O G H O1 G1 H1) (gD : G1 Dd = none) (oD : O1 Dd = none) (n3 : ∀ φ, H1 Dd ≠ some (.ext φ)) (ra : RpL K G1 vacc acc) : Gth K B O G H Dd O1 G1 (upd H1 Dd (.lst vacc)) acc vacc := by
  have gd := st.good
  have gd2 : Good K B O1 G1 (upd H1 Dd (.lst vacc)) := by
    refine ⟨fun a o e => ?_, fun b l T e => ?_, gd.amb, fun p d e => ?_⟩
    · rw [upd_ne (fun z => by rw [z, gD] at e; cases e)]; exact gd.sub a o e
    · refine (gd.box b l T e).step (Sub.refl _) (fun a ha => gd.hidG ⟨b, l, T, e, ha⟩) fun a o ha h => ?_
      rw [upd_ne (fun z => nb (by rw [← z]; exact ⟨b, l, T, e, ha⟩))]
      exact h
    · obtain ⟨a, b, c⟩ := gd.own p d e
      exact ⟨a, b, c.mono (Sub.refl _) fun o h => by rw [upd_ne (fun z => by rw [z, oD] at e; cases e)]; exact h⟩
  exact ⟨⟨st.grow, gd2, fun a o e n z => by rw [upd_ne (fun z => by rw [z, nH] at e; cases e)]; exact st.keep a o e n z, st.hid, fun a h => upd_still a (st.still a h)⟩, gD, oD, upd_same, ra⟩
theorem Gth.put {v : V} {d : D} (nb : ¬ Hid B Dd) (nH : H Dd = none) (g : Gth K B O G H Dd O1 G1 H1 acc vacc) (r : Rp K G1 v d) : Gth K B O G H Dd O1 G1 (upd H1 Dd (.lst (vacc ++ [v]))) (acc ++ [d]) (vacc ++ [v]) :=
  Gth.lay nb nH g.st g.gD g.oD (fun φ z => by rw [g.hD] at z; cases z) (g.ra.append (.cons r .nil))
end
end EV
set_option Elab.async false
set_option linter.all false
set_option maxRecDepth 100000
set_option maxHeartbeats 4000000
namespace EV
open PySem PySem.Spec PyProof.Rows L2
end EV
set_option Elab.async false
set_option linter.all false
set_option maxRecDepth 100000
set_option maxHeartbeats 4000000
namespace EV
open PySem PySem.Spec PyProof.Rows L2
end EV
set_option Elab.async false
set_option linter.all false
set_option maxRecDepth 100000
set_option maxHeartbeats 4000000
set_option pp.maxSteps 400
namespace LW
open PySem PySem.Spec PyProof.Rows L2 EV PySem.XO PySem.W LamX
theorem ix0 {x : D} {xs : List D} {Q : D → Prop} (q : Q x) : ixP (.tup (x :: xs)) (.int 0) Q := by
  have e : atI (x :: xs) (0 : Int) = some x := atI_nat (xs := x :: xs) (j := 0) rfl
  unfold ixP
  simp only [e]
  exact q
theorem cut1 (x : D) (xs : List D) : EV.cutD (x :: xs) (some 1) none = xs := by
  have h1 : HT.sIx (x :: xs).length 0 (some 1) = 1 := by simp [HT.sIx]; try omega
  have h2 : HT.sIx (x :: xs).length (x :: xs).length none = (x :: xs).length := by simp [HT.sIx]
  unfold EV.cutD
  rw [h1, h2]
  simp
theorem sl1 {x : D} {xs : List D} {Q : D → Prop} (q : Q (.tup xs)) : slD (.tup (x :: xs)) (some 1) none Q := by
  have h1 : HT.sIx (x :: xs).length 0 (some 1) = 1 := by simp [HT.sIx]; try omega
  refine ⟨by rw [h1]; simp, ?_⟩
  rw [cut1]; exact q
theorem val_sl1 {m : DE} {ρ : Slots} {O : Ow} (x : D) (xs : List D) (h : ∀ Q E, Q (.tup (x :: xs)) O → m ρ O Q E) : ∀ Q E, Q (.tup xs) O → dSl m (dPart (dC (.int 1))) dNoPart ρ O Q E := fun Q E q => h _ _ (show slD (.tup (x :: xs)) (some 1) none (fun d => Q d O) from sl1 q)
theorem hud {A : Around} {k : Nat} (hr : Room k A) : A.units + 1 < cLine := by have := hr.un; omega
theorem tg_pair {i j : Nat} {x y : D} {ρ : Slots} {Q : Slots → Prop} (ρ' : Slots) (e : (ρ.set i (.sh x)).set j (.sh y) = ρ') (h : Q ρ') : dgCons (dgName i) (dgCons (dgName j) dgNil) [x, y] ρ Q := by subst e; exact h
theorem bcT {P Q : Prop} (h : P) : bc true P Q := h
theorem bcF {P Q : Prop} (h : Q) : bc false P Q := h
theorem bcN {P : Prop} {A : DEnds} {ρ : Slots} {O : Ow} (h : A.nx ρ O) : bc false P (dNext A ρ O) := h
theorem st_if {t : DT} {u v rest : DS} {A : DEnds} {ρ : Slots} {O : Ow} (b : Bool) (h : ∀ Q E, Q b O → t ρ O Q E) (k : bc b (u { A with nx := rest A } ρ O) (v { A with nx := rest A } ρ O)) : dSeq (dIfS t u v) rest A ρ O := h _ _ k
theorem st_if1 {t : DT} {u v : DS} {A : DEnds} {ρ : Slots} {O : Ow} (b : Bool) (h : ∀ Q E, Q b O → t ρ O Q E) (k : bc b (u A ρ O) (v A ρ O)) : dIfS t u v A ρ O := h _ _ k
theorem st_for {mi : DI} {g : DG} {b rest : DS} {A : DEnds} {ρ : Slots} {O : Ow} (xs : List D) (h : ∀ Q E, Q (tt1, xs) O → mi ρ O Q E) (k : forW tt1 g b { A with nx := rest A } xs ρ O) : dSeq (dFor mi g b) rest A ρ O := h _ _ k
theorem val_enum {mA : DA} {ρ : Slots} {O : Ow} {d : D} {rs : List D} (hd : d = .lst rs ∨ d = .tup rs) (h : ∀ Q E, Q [d] O → mA ρ O Q E) : ∀ Q E, Q (tt1, enumL rs) O → dEnum mA ρ O Q E := fun Q E q => h _ _ (by
  rcases hd with rfl | rfl <;> exact q)
theorem val_len {mA : DA} {ρ : Slots} {O : Ow} {d : D} {rs : List D} (hd : d = .lst rs ∨ d = .tup rs) (h : ∀ Q E, Q [d] O → mA ρ O Q E) : ∀ Q E, Q (.int rs.length) O → dCB lenO mA ρ O Q E := fun Q E q => h _ _ (by
  rcases hd with rfl | rfl <;> exact q)
theorem val_ix {ma mb : DE} {ρ : Slots} {O : Ow} {d : D} {rs : List D} {i : Int} {y : D} (hd : d = .lst rs ∨ d = .tup rs) (h : ∀ Q E, Q d O → ma ρ O Q E) (hi : ∀ Q E, Q (.int i) O → mb ρ O Q E) (e : atI rs i = some y) : ∀ Q E, Q y O → dOp ixD ma mb ρ O Q E := fun Q E q => h _ _ (hi _ _ (by
  rcases hd with rfl | rfl
  · show ixP (.lst rs) (.int i) _
    simp only [ixP, e]; exact q
  · show ixP (.tup rs) (.int i) _
    simp only [ixP, e]; exact q))
theorem val_tst {m : DE} {ρ : Slots} {O : Ow} (b : Bool) (h : ∀ Q E, Q (.bl b) O → m ρ O Q E) : ∀ Q E, Q b O → dTest m ρ O Q E := fun Q E q => h _ _ q
theorem val_tstB {m : DE} {ρ : Slots} {O : Ow} (b : Bool) (h : ∀ Q E, Q (.bl b) O → m ρ O Q E) : ∀ Q E, Q b O → dTestB m ρ O Q E := fun Q E q => h _ _ q
theorem val_not {t : DT} {ρ : Slots} {O : Ow} (b : Bool) (h : ∀ Q E, Q b O → t ρ O Q E) : ∀ Q E, Q (!b) O → dNot t ρ O Q E := fun Q E q => h _ _ q
theorem val_raise {C : Addr} {code : Str} {names : List Str} {mA : DA} {A : DEnds} {ρ : Slots} {O : Ow} (xs : List D) (hl : xs.length = names.length) (h : ∀ Q E, Q xs O → mA ρ O Q E) (k : A.ex (C, errD code names xs) ρ O) : dRaise C code names mA A ρ O := h _ _ ⟨hl, k⟩
theorem val_call {sp : DSp} {mA : DA} {ρ : Slots} {O : Ow} (xs : List D) (y : D) (h : ∀ Q E, Q xs O → mA ρ O Q E) (k : ∀ Q E, Q y O → sp xs O Q E) : ∀ Q E, Q y O → dCall sp mA ρ O Q E := fun Q E q => h _ _ (spM.of (k _ _ q))
theorem val_ixK {a : Addr} {kvs : List (Str × D)} {ma mb : DE} {ρ : Slots} {O : Ow} (z : Str) (y : D) (h : ∀ Q E, Q (.opq (.ref a)) O → ma ρ O Q E) (hi : ∀ Q E, Q (.str z) O → mb ρ O Q E) (e : kvs.lookup z = some y) : ∀ Q E, Q y O → dOp (pu (ixK a kvs)) ma mb ρ O Q E := fun Q E q => h _ _ (hi _ _ ⟨rfl, by rw [e]; exact q⟩)
theorem find_at {n i : Nat} {p : Nat → Bool} (hi : i < n) (h : p i = true) (hj : ∀ j, j < i → p j = false) : (List.range n).find? p = some i :=
  List.find?_range_eq_some.mpr ⟨h, List.mem_range.mpr hi, fun j h => by simp [hj j h]⟩
theorem find_no {n : Nat} {p : Nat → Bool} (hj : ∀ j, j < n → p j = false) : (List.range n).find? p = none :=
  List.find?_range_eq_none.mpr fun j h => by simp [hj j h]
def Seq (d : D) (xs : List D) : Prop := d = .lst xs ∨ d = .tup xs
theorem st_forJ {mi : DI} {g : DG} {b rest : DS} {A : DEnds} {ρ : Slots} {O : Ow} (xs : List D) (J : Nat → Slots → Prop) (h : ∀ Q E, Q (tt1, xs) O → mi ρ O Q E) (j0 : J 0 ρ)
    (step : ∀ i d, xs[i]? = some d → ∀ ρ, J i ρ → ∀ N : Slots → Ow → Prop, (∀ r, J (i + 1) r → N r O) → g d ρ fun ρ' => b { nx := N, rt := A.rt, bk := rest A, ct := N, ex := A.ex } ρ' O) (k : ∀ r, J xs.length r → rest A r O) : dSeq (dFor mi g b) rest A ρ O := by
  refine h _ _ ?_
  refine forW_at (I := tt1) xs (fun i r O' => O' = O ∧ J i r) (fun _ _ _ _ => trivial) ?_ ?_ (i := 0) rfl (Nat.zero_le _) ⟨rfl, j0⟩
  · rintro i d e ρ O' ⟨rfl, hj⟩ N hN
    exact step i d e ρ hj N fun r hr => hN r _ ⟨rfl, hr⟩
  · rintro r O' ⟨rfl, hj⟩
    exact k r hj
theorem tg_one {i : Nat} {x : D} {ρ : Slots} {Q : Slots → Prop} (ρ' : Slots) (e : ρ.set i (.sh x) = ρ') (h : Q ρ') : dgName i x ρ Q := by subst e; exact h
theorem tg_tup {n : Nat} {gs : DGs} {xs : List D} {ρ : Slots} {Q : Slots → Prop} (e : xs.length = n) (h : gs xs ρ Q) : dgTup n gs (.tup xs) ρ Q := ⟨e, h⟩
theorem enum_at {xs : List D} {i : Nat} {d : D} (h : (enumL xs)[i]? = some d) : ∃ x, xs[i]? = some x ∧ d = .tup [.int i, x] := by
  simp only [enumL, List.getElem?_map, List.getElem?_zipIdx, Option.map_map] at h
  cases e : xs[i]? with
  | none => rw [e] at h; cases h
  | some x => rw [e] at h; simp at h; exact ⟨x, rfl, h.symm⟩
theorem enum_len (xs : List D) : (enumL xs).length = xs.length := by simp [enumL]
theorem rng_at {n i : Nat} {d : D} (h : (rngD 0 n)[i]? = some d) : i < n ∧ d = .int i := by
  unfold rngD at h
  rw [List.getElem?_map] at h
  by_cases hi : i < n
  · rw [List.getElem?_range hi] at h
    simp at h
    exact ⟨hi, h.symm⟩
  · rw [List.getElem?_eq_none (by simp; omega)] at h; cases h
theorem getD_of {xs : List D} {i : Nat} {x : D} (h : xs[i]? = some x) : xs.getD i .non = x := by simp [List.getD, h]
theorem val_tupO {mA : DA} {ρ : Slots} {O : Ow} {d : D} {rs : List D} (hd : Seq d rs) (h : ∀ Q E, Q [d] O → mA ρ O Q E) : ∀ Q E, Q (.tup rs) O → dCB tupO mA ρ O Q E := fun Q E q => h _ _ (by
  rcases hd with rfl | rfl <;> exact q)
theorem val_mkK {C : Addr} {n m : Nat} {k : List D → List D → DSp} {mA mK : DA} {ρ : Slots} {O : Ow} {Q : QD} {E : QX} (ds : List D) (hA : ∀ Q E, Q ds O → mA ρ O Q E) (hK : mK ρ O (fun zs O2 => ds.length = n ∧ zs.length = m ∧ k ds zs [] O2 Q E) E) : dMkK C n m k mA mK ρ O Q E := hA _ _ hK
theorem flat_repx (x : D) : ∀ n : Nat, (List.replicate n [x]).flatten = List.replicate n x
  | 0 => rfl
  | n + 1 => by rw [List.replicate_succ, List.replicate_succ, List.flatten_cons, flat_repx x n]; rfl
theorem val_rep {mx mk : DE} {ρ : Slots} {O : Ow} (x : D) (k : Nat) (hx : ∀ Q E, Q (.lst [x]) O → mx ρ O Q E) (hk : ∀ Q E, Q (.int k) O → mk ρ O Q E) (hl : k ≤ 1000) : ∀ Q E, Q (.lst (List.replicate k x)) O → dOp (pu mulD) mx mk ρ O Q E := fun Q E q => hx _ _ (hk _ _ ⟨by omega, by omega, by
  have : 1000 ≤ sizeLine := by decide
  simp; omega, by rw [Int.toNat_natCast, flat_repx]; exact q⟩)
theorem val_pull {b : Addr} {mb mN : DE} {ρ : Slots} {O : Ow} (n : Int) (hb : ∀ Q E, Q (.opq (.ref b)) O → mb ρ O Q E) (hN : ∀ Q E, Q (.int n) O → mN ρ O Q E) (h0 : 0 < n) (h1 : n < 1073741824) : ∀ Q E, (∀ k, 0 ≤ k → k < n → Q (.int k) O) → dCallX b pullS (dCons mb (dCons mN dNil)) ρ O Q E := fun Q E q => hb _ _ (hN _ _ ⟨rfl, spM.of ⟨n, rfl, h0, h1, q⟩⟩)
theorem val_of {b : Addr} {mb md : DE} {ρ : Slots} {O : Ow} (d : D) (hb : ∀ Q E, Q (.opq (.ref b)) O → mb ρ O Q E) (hd : ∀ Q E, Q d O → md ρ O Q E) (h0 : 0 < (itemsL d).length) (h1 : (itemsL d).length < 1000000) : ∀ Q E, (∀ y ∈ itemsL d, Q y O) → dCallX b ofS (dCons mb (dCons md dNil)) ρ O Q E := fun Q E q => hb _ _ (hd _ _ ⟨rfl, spM.of ⟨d, rfl, h0, h1, q⟩⟩)
theorem each_mem {l : List D} : ∀ {ds ys : List D}, Each (fun _ y => y ∈ l) ds ys → ∀ y ∈ ys, y ∈ l
  | _, _, .nil, y, h => by cases h
  | _, _, .cons a r, y, h => by
    rcases List.mem_cons.mp h with rfl | h
    · exact a
    · exact each_mem r y h
theorem val_join {m : DE} {sep : Str} {ρ : Slots} {O : Ow} {Q : QD} {E : QX} (h : m ρ O (fun d O1 => joinD sep d fun r => Q r O1) E) : dM1 joinD (dC (.str sep)) m ρ O Q E := h
theorem st_asg2 {mA : DA} {i j : Nat} {rest : DS} {A : DEnds} {ρ : Slots} {O : Ow} (P : D → D → Prop) (h : ∀ Q E, (∀ u v, P u v → Q [u, v] O) → mA ρ O Q E) (k : ∀ u v, P u v → rest A ((ρ.set i (.sh u)).set j (.sh v)) O) : dSeq (dAsg (dTup mA) (dgTup 2 (dgCons (dgName i) (dgCons (dgName j) dgNil)))) rest A ρ O := h _ _ fun u v p => ⟨le_sz rfl, ⟨rfl, k u v p⟩⟩
theorem szk {n : Nat} (h : n ≤ 1000) : n ≤ sizeLine := Nat.le_trans h (by decide)
theorem val_rng {mA : DA} {ρ : Slots} {O : Ow} (n : Nat) (hn : n < 1000000) (h : ∀ Q E, Q [.int n] O → mA ρ O Q E) : ∀ Q E, Q (tt1, rngD 0 n) O → dRng1 mA ρ O Q E := fun Q E q => h _ _ ⟨by omega, by omega, q⟩
theorem st_par3N {mA : DA} {i j l : Nat} {rest : DS} {A : DEnds} {ρ : Slots} {O : Ow} (P : D → D → D → Prop) (h : ∀ Q E, (∀ u v w, P u v w → Q [u, v, w] O) → mA ρ O Q E) (k : ∀ u v w, P u v w → rest A (((ρ.set i (.sh u)).set j (.sh v)).set l (.sh w)) O) : dSeq (dPar3 i j l mA) rest A ρ O := h _ _ k
theorem val_inB {ma mb : DE} {ρ : Slots} {O : Ow} (z : Str) (ss : List Str) (b : Bool) (ha : ∀ Q E, Q (.str z) O → ma ρ O Q E) (hb : ∀ Q E, Q (.tup (ss.map fun x => .str x)) O → mb ρ O Q E) (e : (ss.any fun y => decide (z = y)) = b) : ∀ Q E, Q (.bl b) O → dOp (pu (inSD id)) ma mb ρ O Q E := fun Q E q => ha _ _ (hb _ _ (by
  show (match toSs (ss.map fun x => .str x) with
    | some ss => Q (.bl (id (ss.any fun y => decide (z = y)))) O
    | none => False)
  rw [toSs_map (fun x => x)]
  show Q (.bl (id ((ss.map fun x => x).any fun y => decide (z = y)))) O
  rw [List.map_id', e]
  exact q))
theorem val_eqB {ma mb : DE} {ρ : Slots} {O : Ow} (z y : Str) (b : Bool) (ha : ∀ Q E, Q (.str z) O → ma ρ O Q E) (hb : ∀ Q E, Q (.str y) O → mb ρ O Q E) (e : decide (z = y) = b) : ∀ Q E, Q (.bl b) O → dOp (pu (eqD id)) ma mb ρ O Q E := fun Q E q => ha _ _ (hb _ _ (by
  show Q (.bl (decide (z = y))) O
  rw [e]; exact q))
theorem val_ret {m : DE} {A : DEnds} {ρ : Slots} {O : Ow} (d : D) (h : ∀ Q E, Q d O → m ρ O Q E) (q : A.rt d O) : dRet m A ρ O := h _ _ q
theorem val_retX {m : DE} {A : DEnds} {ρ : Slots} {O : Ow} (h : m ρ O A.rt fun x O1 => A.ex x ρ O1) : dRet m A ρ O := h
theorem val_if {t : DT} {ma mb : DE} {ρ : Slots} {O : Ow} (b : Bool) (h : ∀ Q E, Q b O → t ρ O Q E) {Q : QD} {E : QX} (k : bc b (ma ρ O Q E) (mb ρ O Q E)) : dIf t ma mb ρ O Q E := h _ _ k
theorem each_P {P : D → Prop} : ∀ {ds ys : List D}, Each (fun _ y => P y) ds ys → ∀ y ∈ ys, P y
  | _, _, .nil, y, h => by cases h
  | _, _, .cons a r, y, h => by
    rcases List.mem_cons.mp h with rfl | h
    · exact a
    · exact each_P r y h
theorem val_ofN {b : Addr} {mb md : DE} {ρ : Slots} {O : Ow} {P : D → Prop} (hb : ∀ Q E, Q (.opq (.ref b)) O → mb ρ O Q E) (hd : ∀ Q E, (∀ d, P d → Q d O) → md ρ O Q E) (h0 : ∀ d, P d → 0 < (itemsL d).length ∧ (itemsL d).length < 1000000) : ∀ Q E, (∀ d, P d → ∀ y ∈ itemsL d, Q y O) → dCallX b ofS (dCons mb (dCons md dNil)) ρ O Q E := fun Q E q => hb _ _ (hd _ _ fun d hP => ⟨rfl, spM.of ⟨d, rfl, (h0 d hP).1, (h0 d hP).2, q d hP⟩⟩)
theorem vN_tup3 {m1 m2 m3 : DE} {ρ : Slots} {O : Ow} {Q : QD} {E : QX} (a c : D) {P : D → Prop} (h1 : ∀ Q E, Q a O → m1 ρ O Q E) (h2 : ∀ Q E, (∀ d, P d → Q d O) → m2 ρ O Q E) (h3 : ∀ Q E, Q c O → m3 ρ O Q E) (q : ∀ d, P d → Q (.tup [a, d, c]) O) : dTup (dCons m1 (dCons m2 (dCons m3 dNil))) ρ O Q E := h1 _ _ (h2 _ _ fun d p => h3 _ _ ⟨le_sz rfl, q d p⟩)
theorem vN_app1 {m1 m2 : DE} {ρ : Slots} {O : Ow} (xs : List D) {P : D → Prop} (h1 : ∀ Q E, Q (.lst xs) O → m1 ρ O Q E) (h2 : ∀ Q E, (∀ d, P d → Q d O) → m2 ρ O Q E) (hl : xs.length + 1 ≤ sizeLine) : ∀ Q E, (∀ d, P d → Q (.lst (xs ++ [d])) O) → dOp (pu addD) m1 (dLst (dCons m2 dNil)) ρ O Q E := fun Q E q => h1 _ _ (h2 _ _ fun d p => ⟨le_sz rfl, ⟨hl, q d p⟩⟩)
theorem getD_el {α : Type} {l : List α} {i : Nat} {d : α} (h : i < l.length) : l.getD i d = l[i] := by simp [List.getD, List.getElem?_eq_getElem h]
theorem any_mem {l : List Str} {z : Str} (h : (l.any fun y => decide (z = y)) = true) : z ∈ l := by
  obtain ⟨y, hy, e⟩ := List.any_eq_true.mp h
  rw [of_decide_eq_true e]; exact hy
end LW
set_option Elab.async false
set_option linter.all false
set_option maxRecDepth 100000
set_option maxHeartbeats 4000000
set_option pp.maxSteps 400
namespace LW
open PySem PySem.Spec PyProof.Rows L2 EV PySem.XO PySem.W LamX
abbrev s_words : Stmt := topS 41
abbrev N_words : List Str := ["_law_box_here", "_law_many", "_law_letters", "_law_stem", "_law_spot", "_law_first", "_law_k"]
theorem sc_words : FnScope N_words ["_law_box_here", "_law_many"] (defScope s_words) := ⟨rfl, rfl, rfl, by decide +kernel, rfl, by decide +kernel, by decide +kernel⟩
def wordsS : DSp := fun ds O Q _ => ∃ n : Nat, ds = [.int n] ∧ n ≤ 26 ∧ ∀ ws : List Str, ws.length = n → (∀ w ∈ ws, isNm (.str w) = true) → ws.Nodup → Q (.lst (ws.map D.str)) O
/-- .. and of which lengths they are not -/
def no45 (w : Str) : Prop := w.length ≠ 4 ∧ w.length ≠ 5
def wordsS5 : DSp := fun ds O Q _ => ∃ n : Nat, ds = [.int n] ∧ n ≤ 26 ∧ ∀ ws : List Str, ws.length = n → (∀ w ∈ ws, isNm (.str w) = true) → ws.Nodup → (∀ w ∈ ws, no45 w) → Q (.lst (ws.map D.str)) O
theorem fn_impB {P : Program} {w : World} {K : PySem.W.Frag} {mg : Str → Option Value} {base : Heap} {CX : CXT} {k : Nat} {f : Addr} {fd : FuncData} {ps : List Str} {sp sp' : DSp} (hi : ∀ ds O Q E, sp' ds O Q E → sp ds O Q E) (F : FnOk P w K mg base CX k f fd ps (spB K sp)) : FnOk P w K mg base CX k f fd ps (spB K sp') :=
  ⟨fun vs H Q E ⟨b, l, T, ws, G, O, ds, e, g, r, Q0, E0, z, h1, h2⟩ => F.len vs H Q E ⟨b, l, T, ws, G, O, ds, e, g, r, Q0, E0, hi _ _ _ _ z, h1, h2⟩,
   fun A outer s H args us vs Q E h1 h2 h3 h4 ⟨b, l, T, ws, G, O, ds, e, g, r, Q0, E0, z, h5, h6⟩ => F.run A outer s H args us vs Q E h1 h2 h3 h4 ⟨b, l, T, ws, G, O, ds, e, g, r, Q0, E0, hi _ _ _ _ z, h5, h6⟩⟩
local macro_rules | `(tactic| walk_at "n") => `(tactic| refine st_norm (by simp only [List.set_cons_succ, List.set_cons_zero]; rfl) ?_)
def wordD (stem : Str) (spot first : Int) : D → D
  | .int k => .str (cutS stem none (some spot) ++ ⟨#[((co lettersT).getD ((first + 7 * k) % 26).toNat 0)]⟩ ++ cutS stem (some spot) none)
  | _ => .non
def lettN (i : Int) : Nat := (co lettersT).getD (i % 26).toNat 0
theorem lett_at (i : Int) : atI (co lettersT) (i % 26) = some (lettN i) := by
  have h0 : 0 ≤ i % 26 := Int.emod_nonneg _ (by decide)
  have h1 : i % 26 < 26 := Int.emod_lt_of_pos _ (by decide)
  have e : (((i % 26).toNat : Nat) : Int) = i % 26 := by omega
  have hk : (i % 26).toNat < (co lettersT).length := by
    have : (co lettersT).length = 26 := by decide +kernel
    omega
  rw [← e, atI_nat (List.getElem?_eq_getElem hk)]
  unfold lettN
  rw [getD_el hk]
theorem lett_val : ∀ k, k < 26 → (co lettersT).getD k 0 = 97 + k := by decide +kernel
theorem lettN_eq (i : Int) : lettN i = 97 + (i % 26).toNat := lett_val _ (by have := Int.emod_nonneg i (show (26 : Int) ≠ 0 by decide); have := Int.emod_lt_of_pos i (show (0 : Int) < 26 by decide); omega)
theorem lettN_mem (i : Int) : lettN i ∈ co lettersT := by
  have h0 : 0 ≤ i % 26 := Int.emod_nonneg _ (by decide)
  have h1 : i % 26 < 26 := Int.emod_lt_of_pos _ (by decide)
  have hk : (i % 26).toNat < (co lettersT).length := by
    have : (co lettersT).length = 26 := by decide +kernel
    omega
  unfold lettN
  rw [getD_el hk]
  exact List.getElem_mem hk
def wordT (stem : Str) (spot first : Int) (k : Int) : Str := cutS stem none (some spot) ++ ⟨#[lettN (first + 7 * k)]⟩ ++ cutS stem (some spot) none
theorem wordT_co {stem : Str} {spot first k : Int} (h0 : 0 ≤ spot) (h1 : spot ≤ stem.length) : co (wordT stem spot first k) = (co stem).take spot.toNat ++ [lettN (first + 7 * k)] ++ (co stem).drop spot.toNat := by
  unfold wordT
  rw [co_app, co_app, cut_to _ h0 h1, cut_from _ h0 h1]
  rfl
theorem wordT_nm {stem : Str} {spot first k : Int} (h0 : 0 ≤ spot) (h1 : spot ≤ stem.length) (hs : stem.length ≤ 5) (hc : ∀ c ∈ co stem, c ∈ co lettersT) : isNm (.str (wordT stem spot first k)) = true := by
  have e := wordT_co (first := first) (k := k) h0 h1
  have el : (wordT stem spot first k).length = stem.length + 1 := by
    rw [← co_len, e, ← co_len]
    simp only [List.length_append, List.length_take, List.length_drop, List.length_cons, List.length_nil]
    rw [co_len]; omega
  show (decide (1 ≤ (wordT stem spot first k).length) && decide ((wordT stem spot first k).length ≤ 6) && (co (wordT stem spot first k)).all fun c => decide (c ∈ co lettersT)) = true
  rw [el, e]
  simp only [Bool.and_eq_true, decide_eq_true_eq, List.all_eq_true]
  refine ⟨⟨by omega, by omega⟩, fun c h => ?_⟩
  simp only [List.mem_append, List.mem_cons, List.not_mem_nil, or_false] at h
  rcases h with (h | h) | h
  · exact hc c (List.mem_of_mem_take h)
  · rw [h]; exact lettN_mem _
  · exact hc c (List.mem_of_mem_drop h)
theorem wordT_inj {stem : Str} {spot first k k' : Int} (h0 : 0 ≤ spot) (h1 : spot ≤ stem.length) (a0 : 0 ≤ k) (a1 : k < 26) (b0 : 0 ≤ k') (b1 : k' < 26) (h : wordT stem spot first k = wordT stem spot first k') : k = k' := by
  have e := congrArg co h
  rw [wordT_co h0 h1, wordT_co h0 h1, List.append_assoc, List.append_assoc] at e
  have e2 := List.append_cancel_left e
  have e3 : lettN (first + 7 * k) = lettN (first + 7 * k') := by
    have := List.cons.inj e2
    exact this.1
  rw [lettN_eq, lettN_eq] at e3
  omega
theorem each_letters : ∀ {ds ys : List D}, Each (fun _ y => ∃ c ∈ co lettersT, y = .str ⟨#[c]⟩) ds ys → ∃ cs : List Nat, ys = cs.map (fun c => D.str ⟨#[c]⟩) ∧ ∀ c ∈ cs, c ∈ co lettersT
  | _, _, .nil => ⟨[], rfl, fun _ h => by cases h⟩
  | _, _, .cons ⟨c, mc, e⟩ r => by
    obtain ⟨cs, e1, h1⟩ := each_letters r
    refine ⟨c :: cs, by rw [e, e1]; rfl, fun x hx => ?_⟩
    rcases List.mem_cons.mp hx with q | q
    · rw [q]; exact mc
    · exact h1 x q
theorem sum_ones : ∀ cs : List Nat, (cs.map fun _ => 1).sum = cs.length
  | [] => rfl
  | _ :: cs => by simp only [List.map_cons, List.sum_cons, sum_ones cs, List.length_cons]; omega
theorem join_letters {cs : List Nat} (h : cs.length ≤ 1000) {Q : D → Prop} (q : ∀ y : Str, co y = cs → Q (.str y)) : joinD Str.empty (.lst (cs.map fun c => D.str ⟨#[c]⟩)) Q := by
  show joinOn _ _ _
  unfold joinOn
  rw [toSs_map]
  refine ⟨?_, q _ (join_sing cs)⟩
  have e1 : ((cs.map fun c => (⟨#[c]⟩ : Str)).map (·.length)).sum = cs.length := by
    rw [List.map_map]
    exact sum_ones cs
  rw [e1]
  have : (Str.empty).length = 0 := rfl
  rw [this]
  omega
section
variable {P : Program} {w : World} {K : PySem.W.Frag} {mg : Str → Option Value} {base : Heap}
theorem ok_words5 {f fP fO : Addr} {fd fdP fdO : FuncData} (F : Fun K "_law_words" "_law_words" s_words f fd) (G_pull : FnOk P w K mg base CX0 1 fP fdP ["_law_box_here", "_law_many"] (spB K pullS)) (T_pull : Gf K mg "_law_pull" fP fdP ["_law_box_here", "_law_many"])
    (G_of : FnOk P w K mg base CX0 2 fO fdO ["_law_box_here", "_law_some"] (spB K ofS)) (T_of : Gf K mg "_law_of" fO fdO ["_law_box_here", "_law_some"]) (m_len : mg "len" = none) (m_int : mg "int" = none) (m_range : mg "range" = none) :
    FnOk P w K mg base CX0 3 f fd ["_law_box_here", "_law_many"] (spB K wordsS5) := by
  refine fn_box F sc_words (fun ds O Q E h => ?_) (fun cdv A outer s H E b l T hr =>
    (d_scons (d_set (i := 2) sc_words.nd rfl (.inr rfl) d_str rfl (.inl rfl))
      (d_scons (d_set (i := 3) sc_words.nd rfl (.inr rfl) (d_join d_str (d_lc rfl sc_words.nd (d_rng1 rfl m_range (d_cons (d_callX G_of rfl (hr.mono (by decide)) rfl T_of.m T_of.k T_of.b (fun _ => pass0A) (d_cons (d_var (i := 0) rfl (.inr (.inl rfl)) (by decide) (by decide)) (d_cons (d_lst (d_cons d_int (d_cons d_int (d_cons d_int (d_cons d_int (d_cons d_int d_nil rfl) rfl) rfl) rfl) rfl)) d_nil rfl) rfl) (by decide) rfl rfl) d_nil rfl) rfl) (blkOk_by (own := [("_law_k", 6)]) (N := N_words) (sc := defScope s_words) (by decide +kernel)) (fun _ _ _ _ _ => (dg_name (i := 6) sc_words.nd rfl (.inl rfl) (.inr rfl))) (fun _ _ _ _ _ => d_ifs0) (fun _ _ _ _ _ => (d_callX G_of rfl (hr.mono (by decide)) rfl T_of.m T_of.k T_of.b (fun _ => pass0A) (d_cons (d_var (i := 0) rfl (.inr (.inl rfl)) (by decide) (by decide)) (d_cons (d_var (i := 2) rfl (.inr (.inl rfl)) (by decide) (by decide)) d_nil rfl) rfl) (by decide) rfl rfl)) (by decide +kernel) (fun _ => rfl)) rfl rfl rfl) rfl (.inl rfl))
      (d_scons (d_asg (d_tup (d_cons (d_callX G_pull rfl (hr.mono (by decide)) rfl T_pull.m T_pull.k T_pull.b (fun _ => pass0A) (d_cons (d_var (i := 0) rfl (.inr (.inl rfl)) (by decide) (by decide)) (d_cons (d_op od_add (d_callB cd_len rfl m_len boot_len (d_cons (d_var (i := 3) rfl (.inr (.inl rfl)) (by decide) (by decide)) d_nil rfl) (by decide) (by decide) rfl rfl) d_int) d_nil rfl) rfl) (by decide) rfl rfl) (d_cons (d_callX G_pull rfl (hr.mono (by decide)) rfl T_pull.m T_pull.k T_pull.b (fun _ => pass0A) (d_cons (d_var (i := 0) rfl (.inr (.inl rfl)) (by decide) (by decide)) (d_cons d_int d_nil rfl) rfl) (by decide) rfl rfl) d_nil rfl) rfl)) (dg_tup (n := 2) rfl (dgs_cons (dg_name (i := 4) sc_words.nd rfl (.inr rfl) (.inl rfl)) (dgs_cons (dg_name (i := 5) sc_words.nd rfl (.inr rfl) (.inl rfl)) dgs_nil rfl) rfl) rfl rfl) rfl rfl rfl)
      (d_sone (d_ret (d_lc rfl sc_words.nd (d_rng1 rfl m_range (d_cons (d_var (i := 1) rfl (.inl rfl) (by decide) (by decide)) d_nil rfl) rfl) (blkOk_by (own := [("_law_k", 6)]) (N := N_words) (sc := defScope s_words) (by decide +kernel)) (fun _ _ _ _ _ => (dg_name (i := 6) sc_words.nd rfl (.inl rfl) (.inr rfl))) (fun _ _ _ _ _ => d_ifs0) (fun _ _ _ _ _ => (d_op od_add (d_op od_add (d_sl (d_var (i := 3) rfl (.inr (.inl rfl)) (by decide) (by decide)) d_nopart (d_part (d_var (i := 4) rfl (.inr (.inl rfl)) (by decide) (by decide)))) (d_ix (d_var (i := 2) rfl (.inr (.inl rfl)) (by decide) (by decide)) (d_op od_mod (d_callTy cd_int rfl m_int boot_int (d_cons (d_op od_add (d_var (i := 5) rfl (.inr (.inl rfl)) (by decide) (by decide)) (d_op od_mul d_int (d_var (i := 6) rfl (.inl rfl) (by decide) (by decide)))) d_nil rfl) (by decide) (by decide) rfl rfl) d_int) (fun _ _ => rfl))) (d_sl (d_var (i := 3) rfl (.inr (.inl rfl)) (by decide) (by decide)) (d_part (d_var (i := 4) rfl (.inr (.inl rfl)) (by decide) (by decide))) d_nopart))) (by decide +kernel) (fun _ => rfl)))))))) (fun b ds O Q E h => ?_) (fun ds O Q E h => h)
  · obtain ⟨n, rfl, _⟩ := h; rfl
  · obtain ⟨n, rfl, hn, q⟩ := h
    rw [show startD N_words [.opq (.ref b), .int n] = [.sh (.opq (.ref b)), .sh (.int n), .un, .un, .un, .un, .un] from rfl]
    refine st_set (.str lettersT) (fun Q E q => q) ?_
    rintro _ rfl
    walk_at "n"
    refine st_setN (fun d => ∃ y : Str, d = .str y ∧ (y.length ≤ 5 ∧ y.length ≠ 3 ∧ y.length ≠ 4) ∧ ∀ c ∈ co y, c ∈ co lettersT) (fun Q E q => ?_) ?_
    · refine val_join ?_
      refine val_of (.lst [.int 0, .int 0, .int 1, .int 2, .int 5]) (fun Q E q => q) (fun Q E q => ⟨le_sz rfl, q⟩) (by decide) (by decide) _ _ fun y hy => ?_
      obtain ⟨k, rfl, hk⟩ : ∃ k : Nat, y = .int k ∧ (k ≤ 5 ∧ k ≠ 3 ∧ k ≠ 4) := by
        simp only [itemsL, List.mem_cons, List.not_mem_nil, or_false] at hy
        rcases hy with rfl | rfl | rfl | rfl | rfl
        · exact ⟨0, rfl, by decide⟩
        · exact ⟨0, rfl, by decide⟩
        · exact ⟨1, rfl, by decide⟩
        · exact ⟨2, rfl, by decide⟩
        · exact ⟨5, rfl, by decide⟩
      refine ⟨by omega, by omega, ?_⟩
      refine lcW_each trivial (fun _ y => ∃ c ∈ co lettersT, y = .str ⟨#[c]⟩) (fun d hd Qy hq => ?_) (by simp [rngD]; have : 6 ≤ sizeLine := by decide
                                                                                                         omega) (fun ys hE => ?_)
      · refine val_of (.str lettersT) (fun Q E q => q) (fun Q E q => q) (by decide +kernel) (by decide +kernel) _ _ fun y hy => ?_
        obtain ⟨c, hc, rfl⟩ := List.mem_map.mp hy
        exact hq _ ⟨c, hc, rfl⟩
      · obtain ⟨cs, rfl, hcs⟩ := each_letters hE
        have hl := hE.length
        simp [rngD] at hl
        exact join_letters (by omega) fun y ey => q _ ⟨y, rfl, by rw [← co_len, ey]; exact ⟨by omega, by omega, by omega⟩, by rw [ey]; exact hcs⟩
    · rintro _ ⟨stem, rfl, ⟨hs5, hs3, hs4⟩, hsc⟩
      walk_at "n"
      refine st_asg2 (fun u v => ∃ sp fi : Int, u = .int sp ∧ v = .int fi ∧ 0 ≤ sp ∧ sp ≤ stem.length) (fun Q E q => ?_) ?_
      · refine val_pull ((stem.length : Int) + 1) (fun Q E q => q) ?_ (by omega) (by omega) _ _ fun k k0 k1 => ?_
        · exact fun Q E q => ⟨szk (by omega), q⟩
        refine val_pull 26 (fun Q E q => q) (fun Q E q => q) (by decide) (by decide) _ _ fun k2 _ _ => q _ _ ⟨k, k2, rfl, rfl, k0, by omega⟩
      · rintro _ _ ⟨sp, fi, rfl, rfl, sp0, sp1⟩
        walk_at "n"
        have key : ∀ k : Nat, (cutS stem none (some sp)).length + 1 + (cutS stem (some sp) none).length ≤ 6 := fun _ => by
          rw [← co_len, ← co_len, cut_to _ sp0 sp1, cut_from _ sp0 sp1]
          simp only [List.length_take, List.length_drop, co_len]
          omega
        refine val_rng n (by omega) (fun Q E q => q) _ _ ?_
        refine lcW_map (I := tt1) trivial (wordD stem sp fi) (fun d hd Qy hq => ?_) ?_ ?_
        · obtain ⟨k, hk, rfl⟩ : ∃ k : Nat, k < n ∧ d = .int k := by
            obtain ⟨i, hi⟩ := List.getElem?_of_mem hd
            exact ⟨i, rng_at hi⟩
          refine tg_one _ rfl ?_
          refine val_op (.str (cutS stem none (some sp) ++ ⟨#[lettN (fi + 7 * k)]⟩)) (.str (cutS stem (some sp) none)) (.str (wordT stem sp fi k)) (val_op (.str (cutS stem none (some sp))) (.str ⟨#[lettN (fi + 7 * k)]⟩) _ ?_ ?_ ?_) ?_ ?_ _ _ hq
          · exact fun Q E q => ⟨szk (by omega), q⟩
          · intro Q E q
            refine ⟨.inl ⟨by decide, by decide⟩, (show (0 : Int) < 26 by decide), by decide +kernel, ?_⟩
            rw [show atI (lettersT.cps.toList) ((fi + 7 * k) % 26) = some (lettN (fi + 7 * k)) from lett_at _]
            exact q
          · exact fun Q q => ⟨szk (by have := key k; show _ + 1 ≤ 1000; omega), q⟩
          · exact fun Q E q => ⟨szk (by omega), q⟩
          · refine fun Q q => ⟨szk ?_, q⟩
            rw [← co_len, co_app, List.length_append, co_len, co_len]
            have := key k
            show _ + 1 + _ ≤ 1000
            omega
        · simp only [rngD, List.length_map, List.length_range, List.length_nil]; exact szk (by omega)
        · refine cast (congrArg (fun z => Q (.lst z) O) ?_) (q ((List.range n).map fun k : Nat => wordT stem sp fi k) (by simp) ?_ ?_ ?_)
          · simp only [rngD, List.nil_append, List.map_map]
            refine List.map_congr_left fun k _ => ?_
            simp only [Function.comp, Int.zero_add]; rfl
          · intro w hw
            obtain ⟨k, _, rfl⟩ := List.mem_map.mp hw
            exact wordT_nm sp0 sp1 hs5 hsc
          · rw [List.Nodup, List.pairwise_map]
            refine List.Pairwise.imp_of_mem ?_ List.nodup_range
            intro a b ha hb hne h
            refine hne ?_
            have := List.mem_range.mp ha
            have := List.mem_range.mp hb
            have := wordT_inj sp0 sp1 (Int.natCast_nonneg a) (by omega) (Int.natCast_nonneg b) (by omega) h
            omega
          · intro w hw
            obtain ⟨k, _, rfl⟩ := List.mem_map.mp hw
            have e : (wordT stem sp fi k).length = stem.length + 1 := by
              have e1 : (cutS stem none (some sp)).length + 1 + (cutS stem (some sp) none).length = stem.length + 1 := by
                rw [← co_len, ← co_len, cut_to _ sp0 sp1, cut_from _ sp0 sp1]
                simp only [List.length_take, List.length_drop, co_len]
                omega
              rw [← e1]
              show (cutS stem none (some sp) ++ ⟨#[lettN (fi + 7 * k)]⟩ ++ cutS stem (some sp) none).length = _
              rw [← co_len, co_app, co_app, List.length_append, List.length_append, co_len, co_len]
              rfl
            exact ⟨by rw [e]; omega, by rw [e]; omega⟩
theorem ok_words {f fP fO : Addr} {fd fdP fdO : FuncData} (F : Fun K "_law_words" "_law_words" s_words f fd) (G_pull : FnOk P w K mg base CX0 1 fP fdP ["_law_box_here", "_law_many"] (spB K pullS)) (T_pull : Gf K mg "_law_pull" fP fdP ["_law_box_here", "_law_many"])
    (G_of : FnOk P w K mg base CX0 2 fO fdO ["_law_box_here", "_law_some"] (spB K ofS)) (T_of : Gf K mg "_law_of" fO fdO ["_law_box_here", "_law_some"]) (m_len : mg "len" = none) (m_int : mg "int" = none) (m_range : mg "range" = none) :
    FnOk P w K mg base CX0 3 f fd ["_law_box_here", "_law_many"] (spB K wordsS) :=
  fn_impB (fun ds O Q E ⟨n, e, hn, q⟩ => ⟨n, e, hn, fun ws a b c _ => q ws a b c⟩) (ok_words5 F G_pull T_pull G_of T_of m_len m_int m_range)
end
end LW
set_option Elab.async false
set_option linter.all false
set_option maxRecDepth 100000
set_option maxHeartbeats 4000000
namespace EV
open PySem PySem.Spec PyProof.Rows L2
end EV
set_option Elab.async false
set_option linter.all false
set_option maxRecDepth 100000
set_option maxHeartbeats 4000000
namespace EV
open PySem PySem.Spec PyProof.Rows L2
/-- what a method does to a list: from its items and the others, the answer and the items then -/
abbrev LR1 := List D → List D → (D → List D → Prop) → Prop
def LMo (R : LR1) : Prop := ∀ xs ys k k', (∀ v zs, k v zs → k' v zs) → R xs ys k → R xs ys k'
def LLift (K : PySem.W.Frag) (R : LR1) (r : V → List V → Hp → VK → Prop) : Prop := ∀ (G H : Hp) (p : Addr) (vs us : List V) (xs ys : List D) (k : D → List D → Prop) (Q : VK), Sub G H → H p = some (.lst vs) → RpL K G vs xs → RpL K G us ys → R xs ys k →
  (∀ v d ws zs, Rp K G v d → RpL K G ws zs → k d zs → Q v (upd H p (.lst ws))) → r (.ref p) us H Q
structure LMet (X : Cx) (nm : Str) (id : String) (R : LR1) : Prop where
  slot : Slot "list" nm id
  ty : typeOf (.builtin id) = pure (.type "method_descriptor")
  mo : LMo R
  run : ∃ r, MtR X id r ∧ LLift X.K R r
def appR : LR1 := fun xs ys k => ∃ y, ys = [y] ∧ xs.length < sizeLine ∧ k .non (xs ++ [y])
def extR : LR1 := fun xs ys k => ∃ zs, ys = [.lst zs] ∧ xs.length + zs.length ≤ sizeLine ∧ k .non (xs ++ zs)
theorem lm_app {X : Cx} : LMet X "append" "list.append" appR := ⟨PySem.F.slot_list_append, PySem.F.type_list_append, fun xs ys k k' h ⟨y, e, z, q⟩ => ⟨y, e, z, h _ _ q⟩, rAppend, mt_append, fun G H p vs us xs ys k Q s hp rv ru h q => by
  obtain ⟨y, rfl, z, h⟩ := h
  cases ru with
  | cons r1 t => cases t; exact ⟨p, vs, _, rfl, rfl, hp, by rw [rv.length]; exact z, q _ _ _ _ .non (rv.append (.cons r1 .nil)) h⟩⟩
abbrev dLM (R : LR1) (ma : DE) (mA : DA) : DE := fun ρ O Q E => ma ρ O (fun x O1 => ∃ p xs0, x = .opq (.ref p) ∧ O1 p = some (.lst xs0) ∧ mA ρ O1 (fun ys O2 => ∃ xs, O2 p = some (.lst xs) ∧ R xs ys fun v zs => Q v (oset O2 p (.lst zs))) E) E
section
variable {X : Cx} {L : Pl} {a b : Expr} {es : List Expr} {ma : DE} {mA : DA} {apos cpos : Pos} {nm : Str} {id : String} {R : LR1}
theorem d_lm (M : LMet X nm id R) (ha : DPE X L a ma) (hA : DPA X L (b :: es) mA) (hbase : attributeBase a nm X.env (eval a X.env) = eval a X.env)
    (hfew : ((backTo cpos (starEach (b :: es) X.env)).all (fun x => !x.1) && (backToKw cpos (keywordEach [] X.env)).all (fun x => x.1.isSome)
      && decide ((b :: es).length + ([] : List Keyword).length + (if ([] : List Keyword).isEmpty then 0 else 1) < 30)) = true)
    (hline : (apos.endLine == cpos.line) = true) (hs : starEach (b :: es) X.env = (false, eval b X.env) :: starEach es X.env) (hplain : (backTo cpos (starEach es X.env)).any (·.1) = false) :
    DPE X L (.Call (.Attribute a nm apos) (b :: es) [] cpos) (dLM R ma mA) := by
  obtain ⟨r, hm, hl⟩ := M.run
  refine ⟨fun ρ O Q Q' E E' q hx x => ha.mo ρ _ _ _ _ _ (fun _ _ ⟨p, xs0, e, o, z⟩ => ⟨p, xs0, e, o, hA.mo ρ _ _ _ _ _ (fun _ _ ⟨xs, o2, y⟩ => ⟨xs, o2, M.mo _ _ _ _ (fun _ _ w => q _ _ w) y⟩) hx z⟩) hx x,
    pe_imp (pe_bm PySem.F.plainAttrs_list M.slot M.ty hm ha.run hA.run hbase hfew hline hs hplain) fun σ H Q ⟨G, O, ρ, g, rs, q⟩ => ?_⟩
  refine up_of ha.mo g rs q fun x vx O1 G1 H1 q1 s1 r1 => ?_
  obtain ⟨p, xs0, rfl, e0, q1⟩ := q1
  cases r1
  obtain ⟨nG0, nb0, vs0, hp0, _⟩ := s1.good.own p _ e0
  refine ⟨.inl ⟨rfl, vs0, SqL.of hp0⟩, ?_⟩
  refine upA_of hA.mo s1.good (rs.step s1) (mo_step hA.mo s1 q1) fun ys us O2 G2 H2 q2 s2 r2 => ?_
  obtain ⟨xs, e2, q2⟩ := q2
  obtain ⟨nG, nb, vs, hp, rl⟩ := s2.good.own p _ e2
  refine hl G2 H2 p vs us xs ys _ Q s2.good.sub hp rl r2 q2 fun v d ws zs rd rz k => ?_
  have st := Step.put (o := .lst ws) (d := .lst zs) s2.good nG nb ⟨_, upd_same, rz⟩ (.inl (by rw [e2]; exact Option.some_ne_none _))
  exact k v _ _ ((s1.trans s2).trans st) rd
end
end EV
set_option Elab.async false
set_option linter.all false
set_option maxRecDepth 100000
set_option maxHeartbeats 4000000
namespace EV
open PySem PySem.Spec PyProof.Rows L2
def leT (a b : Str) : Bool := decide (a.cps.toList ≤ b.cps.toList)
def srtS (xs : List Str) : List Str := xs.mergeSort leT
end EV
set_option Elab.async false
set_option linter.all false
set_option maxRecDepth 100000
set_option maxHeartbeats 4000000
namespace EV
open PySem PySem.Spec PyProof.Rows L2
section
variable {X : Cx} {L : Pl} {e a tg : Expr} {es : List Expr} {m : DE} {mA : DA} {pos p apos cpos : Pos} {B : Bo}
theorem RpK.get {K : PySem.W.Frag} {G : Hp} : ∀ {fs : List (Key × V)} {ds : List (Key × D)} {i : Nat} {kd : Key × D}, RpK K G fs ds → ds[i]? = some kd → ∃ v, fs[i]? = some (kd.1, v) ∧ Rp K G v kd.2
  | _, _, _, _, .nil, e => by simp at e
  | _, _, 0, _, .cons r _, e => by simp at e; subst e; exact ⟨_, rfl, r⟩
  | _, _, i + 1, kd, .cons _ t, e => by
    obtain ⟨u, h1, h2⟩ := RpK.get (i := i) (kd := kd) t (by simpa using e)
    exact ⟨u, by simpa using h1, h2⟩
theorem RpK.fst {K : PySem.W.Frag} {G : Hp} : ∀ {fs : List (Key × V)} {ds : List (Key × D)}, RpK K G fs ds → fs.map (·.1) = ds.map (·.1)
  | _, _, .nil => rfl
  | _, _, .cons r t => by rw [List.map_cons, List.map_cons, RpK.fst t]
theorem dic_of {K : PySem.W.Frag} {O : Ow} {G H : Hp} {vs : List V} {x : D} {kds : List (Key × D)} (g : Good K B O G H) (r : RpL K G vs [x]) (e : lk O x = .dic kds) : ∃ a kvs, vs = [.ref a] ∧ Rd H a (.dK kvs) ∧ RpK K G kvs kds := by
  cases r with
  | cons r1 t =>
    cases t
    have rx := lk_rp g r1
    rw [e] at rx
    obtain ⟨a, kvs, rfl, h, rk⟩ := rx.dic g.sub
    exact ⟨a, kvs, rfl, h, rk⟩
def sortSD : DC := fun O xs Q => match xs with
  | [x] => (match lk O x with
    | .lst ds => ∃ ss : List Str, ds = ss.map D.str ∧ ss.length < 64 ∧ Q (.lst ((srtS ss).map D.str))
    | .dic kds => ∃ ss : List Str, kds.map (·.1) = ss.map Sum.inr ∧ ss.length < 64 ∧ Q (.lst ((srtS ss).map D.str))
    | _ => False)
  | _ => False
def mergeKD (kds more : List (Key × D)) : List (Key × D) := more.foldl (fun acc kd => putKD acc kd.1 kd.2) kds
theorem RpK.merge {K : PySem.W.Frag} {G : Hp} : ∀ {ws fs : List (Key × V)} {ms ds : List (Key × D)}, RpK K G ws ms → RpK K G fs ds → RpK K G (mergeK fs ws) (mergeKD ds ms)
  | _, _, _, _, .nil, s => s
  | _, _, _, _, .cons (k := k) r t, s => by have := RpK.merge t (s.put (k := k) r); exact this
abbrev dDictP (mA : DA) : DE := fun ρ O Q E => mA ρ O (fun xs O1 => ∃ kds : List (Key × D), xs = [.lst (kds.map fun kd => .tup [kD kd.1, kd.2])] ∧ ∀ p, O1 p = none → Q (.opq (.ref p)) (oset O1 p (.dic (mergeKD [] kds)))) E
theorem pairs_of {K : PySem.W.Frag} {G H : Hp} (s : Sub G H) : ∀ {kds : List (Key × D)} {ws : List V}, RpL K G ws (kds.map fun kd => .tup [kD kd.1, kd.2]) → ∃ (ps : List Addr) (kvs : List (Key × V)), ws = ps.map V.ref ∧ Paired (fun p kv => SqT K H p [kV kv.1, kv.2]) ps kvs ∧ RpK K G kvs kds
  | [], _, .nil => ⟨[], [], rfl, .nil, .nil⟩
  | kd :: kds, _, .cons r t => by
    obtain ⟨ps, kvs, rfl, h, rk⟩ := pairs_of s t
    cases r with
    | tup sq rl =>
      rename_i a0 vs0
      cases rl with
      | cons r1 t1 =>
        cases t1 with
        | cons r2 t2 =>
          cases t2
          have e1 := kD_rp r1
          subst e1
          exact ⟨a0 :: ps, (kd.1, _) :: kvs, rfl, .cons (s.sqT sq) h, .cons r2 rk⟩
theorem d_dictP (hc : X.calm = true) (hg : Gl X "dict") (hm : X.mg "dict" = none) (ha : DPA X L [a] mA) (he : starEach [a] X.env = (false, eval a X.env) :: starEach [] X.env) : DPE X L (.Call (.Name "dict" p) [a] [] pos) (dDictP mA) := by
  refine ⟨fun ρ O Q Q' E E' q hx x => ha.mo ρ _ _ _ _ _ (fun _ _ ⟨kds, e, z⟩ => ⟨kds, e, fun p n => q _ _ (z p n)⟩) hx x, pe_imp (pe_callTy (call_dictP hc) hg hm boot_dict ha.run (by decide) (by decide) he rfl) fun σ H Q ⟨G, O, ρ, g, rs, q⟩ => ?_⟩
  refine upA_of ha.mo g rs q fun xs vs O1 G1 H1 q1 s1 r1 => ?_
  obtain ⟨kds, rfl, q1⟩ := q1
  cases r1 with
  | cons r1 t =>
    cases t
    cases r1 with
    | lst h1 rl =>
      obtain ⟨ps, kvs, rfl, hp, rk⟩ := pairs_of s1.good.sub rl
      refine ⟨_, ps, kvs, rfl, s1.good.sub.sqL (SqL.of h1), hp, fun q n => ?_⟩
      have st := new_own (d := .dic (mergeKD [] kds)) (o := .dK (mergeK [] kvs)) s1.good n ⟨_, upd_same, rk.merge .nil⟩
      exact q1 q (s1.good.fresh n) _ _ _ (s1.trans st) (.opq _)
end
end EV
set_option Elab.async false
set_option linter.all false
set_option maxRecDepth 100000
set_option maxHeartbeats 4000000
namespace EV
open PySem PySem.Spec PyProof.Rows L2
def dPairs : List (DE × DE) → Slots → Ow → (List (D × D) → Ow → Prop) → QX → Prop
  | [], _, O, Q, _ => Q [] O
  | m :: ms, ρ, O, Q, E => m.1 ρ O (fun x O1 => m.2 ρ O1 (fun y O2 => dPairs ms ρ O2 (fun ps O3 => Q ((x, y) :: ps) O3) E) E) E
end EV
set_option Elab.async false
set_option linter.all false
set_option maxRecDepth 100000
set_option maxHeartbeats 4000000
namespace EV
open PySem PySem.Spec PyProof.Rows L2
end EV
set_option Elab.async false
set_option linter.all false
set_option maxRecDepth 100000
set_option maxHeartbeats 4000000
namespace EV
open PySem PySem.Spec PyProof.Rows L2
section
variable {X : Cx} {B : Bo}
theorem op_dnotin (hu : X.A.units + 1 < cLine) : OpR X (compareOp .NotIn) (fun x y H Q => ∃ a ov, y = V.ref a ∧ DGet H a x ov ∧ Q (.bl (!ov.isSome)) H) := by
  intro pins s σ H x y v u Q I rx ry h
  obtain ⟨a, ov, rfl, g, q⟩ := h
  cases ry
  exact d_notIn hu I g rx fun s3 I3 => ⟨.bl (!ov.isSome), H, I3, rfl, q⟩
def inDic (f : Bool → Bool) : D2 := fun O x y Q => atDic (lk O y) x fun d => Q (.bl (f d.isSome))
theorem dic_run {f : Bool → Bool} {O : Ow} {G H : Hp} {x y : V} {a b : D} {Q : VK} (gd : Good X.K B O G H) (r1 : Rp X.K G x a) (r2 : Rp X.K G y b) (q : inDic f O a b fun d => kv X.K B O G H Q d O) : ∃ p ov, y = V.ref p ∧ DGet H p x ov ∧ Q (.bl (f ov.isSome)) H := by
  obtain ⟨p, r, d, rfl, hg, hq, h1, h2⟩ := atDic_run gd r2 r1 q
  refine ⟨p, r, rfl, hg, ?_⟩
  have e : r.isSome = d.isSome := by
    cases d with
    | none => rw [h2 rfl]; rfl
    | some d => obtain ⟨v, rfl, _⟩ := h1 d rfl; rfl
  rw [e]
  exact hq _ _ _ (Step.refl gd) (.bl _)
theorem od_notinDic (hu : X.A.units + 1 < cLine) : OpD X B (compareOp .NotIn) (inDic not) :=
  ⟨fun O x y Q Q' q z => atDic_mo (fun _ w => q _ w) z, _, op_dnotin hu, fun O G H x y a b Q gd r1 r2 q => dic_run gd r1 r2 q⟩
end
end EV
set_option Elab.async false
set_option linter.all false
set_option maxRecDepth 100000
set_option maxHeartbeats 4000000
set_option pp.maxSteps 400
namespace LW
open PySem PySem.Spec PyProof.Rows L2 EV PySem.XO PySem.W LamX
def Flat (d : D) : Prop := (tyD d).isSome = true ∧ ∀ y, d = .str y → y.length ≤ sizeLine
theorem st_fld {C : Addr} {f : Str} {mo m : DE} {rest : DS} {A : DEnds} {ρ : Slots} {O : Ow} (p : Addr) (d : D) (fs : List (Str × D)) (h : ∀ Q E, Q d O → m ρ O Q E) (ho : ∀ Q E, Q (.opq (.ref p)) O → mo ρ O Q E) (e : O p = some (.ins C fs)) (hl : fs.length < 1000) (k : rest A ρ (oset O p (.ins C (putD f d fs)))) : dSeq (dSetF C f mo m) rest A ρ O := h _ _ (ho _ _ ⟨fs, e, hl, k⟩)
theorem st_fld1 {C : Addr} {f : Str} {mo m : DE} {A : DEnds} {ρ : Slots} {O : Ow} (p : Addr) (d : D) (fs : List (Str × D)) (h : ∀ Q E, Q d O → m ρ O Q E) (ho : ∀ Q E, Q (.opq (.ref p)) O → mo ρ O Q E) (e : O p = some (.ins C fs)) (hl : fs.length < 1000) (k : A.nx ρ (oset O p (.ins C (putD f d fs)))) : dSetF C f mo m A ρ O := h _ _ (ho _ _ ⟨fs, e, hl, k⟩)
end LW
set_option Elab.async false
set_option linter.all false
set_option maxRecDepth 100000
set_option maxHeartbeats 4000000
set_option pp.maxSteps 400
namespace LW
open PySem PySem.Spec PyProof.Rows L2 EV
abbrev s_is_step : Stmt := topS 24
abbrev N_is_step : List Str := ["value", "cells", "rows", "kind", "item"]
theorem sc_is_step : FnScope N_is_step ["value", "cells", "rows"] (defScope s_is_step) := ⟨rfl, rfl, rfl, by decide +kernel, rfl, by decide +kernel, by decide +kernel⟩
def formsT : List (Str × D) := [("read", .str "c"), ("zero", .str "c"), ("top", .str "c"), ("up", .str "c"), ("copy", .str "cc"), ("same", .str "ccj"), ("less", .str "ccj"), ("has", .str "tcj"), ("link", .str "tccj"), ("jump", .str "j"), ("refuse", .str ""), ("end", .str "")]
def placesT : List (Str × D) := [("has", .int 1), ("link", .int 2)]
/-- one item of a row, by its kind -/
def kindOk (k : Nat) (it : D) (c r : Int) : Bool := if k = 116 then isNm it else isNum it 0 ((if k = 99 then c else r) - 1)
def isStp : D → Int → Int → Bool
  | .tup (.str z :: xs), c, r => match formsT.lookup z with
    | some (.str fm) => decide (xs.length = fm.length) && (List.zip (co fm) xs).all fun p => kindOk p.1 p.2 c r
    | _ => false
  | _, _, _ => false
def Flat1 (v : D) : Prop := (tyD v).isSome = true ∧ ∀ xs, v = .tup xs → ∀ x ∈ xs, Flat x
def stepS : DSp := fun ds O Q _ => ∃ v c r, ds = [v, .int c, .int r] ∧ Flat1 v ∧ Q (.bl (isStp v c r)) O
theorem forms_str : ∀ z d, formsT.lookup z = some d → ∃ fm : Str, d = .str fm ∧ fm.length ≤ 4 := by
  have h : ∀ p ∈ formsT, ∃ fm : Str, p.2 = .str fm ∧ fm.length ≤ 4 := by
    intro p hp
    simp only [formsT, List.mem_cons, List.not_mem_nil, or_false] at hp
    rcases hp with rfl | rfl | rfl | rfl | rfl | rfl | rfl | rfl | rfl | rfl | rfl | rfl <;> exact ⟨_, rfl, by decide⟩
  intro z d e
  have : (z, d) ∈ formsT := by
    have := List.lookup_eq_some_iff.mp e
    obtain ⟨l1, l2, e1, _⟩ := this
    rw [e1]; simp
  exact h _ this
theorem zipL_chars (fm : Str) (xs : List D) : zipL (charsD fm) xs = ((co fm).zip xs).map fun p => .tup [.str ⟨#[p.1]⟩, p.2] := by
  unfold zipL charsD co
  rw [List.zipWith_map_left, List.zip, List.map_zipWith]
theorem one_eq (k j : Nat) : (decide ((⟨#[k]⟩ : Str) = ⟨#[j]⟩)) = decide (k = j) := by
  by_cases h : k = j
  · subst h; simp
  · rw [decide_eq_false h, decide_eq_false]
    intro e
    cases e
    exact h rfl
theorem one_t (k : Nat) : decide ((⟨#[k]⟩ : Str) = "t") = decide (k = 116) := by
  rw [show ("t" : Str) = ⟨#[116]⟩ from by decide +kernel]; exact one_eq k 116
theorem one_c (k : Nat) : decide ((⟨#[k]⟩ : Str) = "c") = decide (k = 99) := by
  rw [show ("c" : Str) = ⟨#[99]⟩ from by decide +kernel]; exact one_eq k 99
section
variable {P : Program} {w : World} {K : PySem.W.Frag} {mg : Str → Option Value} {base : Heap}
theorem ok_is_step {f fN fM aF : Addr} {fd fdN fdM : FuncData} (F : Fun K "is_step" "is_step" s_is_step f fd) (G_is_name : FnOk P w K mg base CX0 1 fN fdN ["value"] (spD K nameS)) (T_is_name : Gf K mg "is_name" fN fdN ["value"])
    (G_is_number : FnOk P w K mg base CX0 1 fM fdM ["value", "least", "most"] (spD K numS)) (T_is_number : Gf K mg "is_number" fM fdM ["value", "least", "most"])
    (m_isinstance : mg "isinstance" = none) (m_str : mg "str" = none) (m_tuple : mg "tuple" = none) (m_len : mg "len" = none) (m_zip : mg "zip" = none) (M_FORMS : mg "FORMS" = some (.ref aF)) (T_FORMS : TabK K w aF formsT) :
    FnOk P w K mg base CX0 2 f fd ["value", "cells", "rows"] (spD K stepS) := by
  refine fn_pure F sc_is_step (fun ds O Q E h => ?_) (fun cdv A outer s H E hr =>
    (d_scons (d_ifS (DPW.pt (d_wor (d_tnot (d_test (d_callB cd_isi rfl m_isinstance boot_isinstance (d_cons (d_var (i := 0) rfl (.inl rfl) (by decide) (by decide)) (d_cons (d_ty rfl m_tuple boot_tuple (by decide) (by decide)) d_nil rfl) rfl) (by decide) (by decide) rfl rfl) (by intro _; rfl))) (d_wor (d_tcmp (od_eq hr.units) (d_callB cd_len rfl m_len boot_len (d_cons (d_var (i := 0) rfl (.inl rfl) (by decide) (by decide)) d_nil rfl) (by decide) (by decide) rfl rfl) d_int (nomark _)) (d_or1 (d_tnot (d_test (d_callB cd_isi rfl m_isinstance boot_isinstance (d_cons (d_ix (d_var (i := 0) rfl (.inl rfl) (by decide) (by decide)) d_int (fun _ _ => rfl)) (d_cons (d_ty rfl m_str boot_str (by decide) (by decide)) d_nil rfl) rfl) (by decide) (by decide) rfl rfl) (by intro _; rfl))))))) (d_sone (d_ret d_bl)) d_snil)
      (d_scons (d_ifS (DPW.pt (d_wor (d_tcmp (od_notinK T_FORMS) (d_ix (d_var (i := 0) rfl (.inl rfl) (by decide) (by decide)) d_int (fun _ _ => rfl)) (d_gdict rfl M_FORMS (by decide)) rfl) (d_or1 (d_tcmp (od_ne hr.units) (d_callB cd_len rfl m_len boot_len (d_cons (d_var (i := 0) rfl (.inl rfl) (by decide) (by decide)) d_nil rfl) (by decide) (by decide) rfl rfl) (d_op od_add d_int (d_callB cd_len rfl m_len boot_len (d_cons (d_ixK T_FORMS (d_gdict rfl M_FORMS (by decide)) (d_ix (d_var (i := 0) rfl (.inl rfl) (by decide) (by decide)) d_int (fun _ _ => rfl)) (fun _ _ => rfl)) d_nil rfl) (by decide) (by decide) rfl rfl)) (nomark _))))) (d_sone (d_ret d_bl)) d_snil)
      (d_scons (d_for PassesOwn.never rfl (d_zip rfl m_zip (d_cons (d_ixK T_FORMS (d_gdict rfl M_FORMS (by decide)) (d_ix (d_var (i := 0) rfl (.inl rfl) (by decide) (by decide)) d_int (fun _ _ => rfl)) (fun _ _ => rfl)) (d_cons (d_sl (d_var (i := 0) rfl (.inl rfl) (by decide) (by decide)) (d_part d_int) d_nopart) d_nil rfl) rfl) rfl rfl) (dg_tup (n := 2) rfl (dgs_cons (dg_name (i := 3) sc_is_step.nd rfl (.inl rfl) (.inl rfl)) (dgs_cons (dg_name (i := 4) sc_is_step.nd rfl (.inl rfl) (.inl rfl)) dgs_nil rfl) rfl) rfl rfl) (d_scons (d_ifS (DPW.pt (d_wand (d_tcmp (od_eq hr.units) (d_var (i := 3) rfl (.inl rfl) (by decide) (by decide)) d_str (nomark _)) (d_and1 (d_tnot (d_test (d_call G_is_name (hr.mono (by decide)) rfl T_is_name.m T_is_name.k T_is_name.b (fun _ => pass0A) (d_cons (d_var (i := 4) rfl (.inl rfl) (by decide) (by decide)) d_nil rfl) (by decide) rfl rfl) (by intro _; rfl)))))) (d_sone (d_ret d_bl)) d_snil)
      (d_sone (d_ifS (DPW.pt (d_wand (d_tcmp (od_ne hr.units) (d_var (i := 3) rfl (.inl rfl) (by decide) (by decide)) d_str (nomark _)) (d_and1 (d_tnot (d_test (d_call G_is_number (hr.mono (by decide)) rfl T_is_number.m T_is_number.k T_is_number.b (fun _ => pass0A) (d_cons (d_var (i := 4) rfl (.inl rfl) (by decide) (by decide)) (d_cons d_int (d_cons (d_op od_sub (d_if (d_tcmp (od_eq hr.units) (d_var (i := 3) rfl (.inl rfl) (by decide) (by decide)) d_str (nomark _)) (d_var (i := 1) rfl (.inl rfl) (by decide) (by decide)) (d_var (i := 2) rfl (.inl rfl) (by decide) (by decide))) d_int) d_nil rfl) rfl) rfl) (by decide) rfl rfl) (by intro _; rfl)))))) (d_sone (d_ret d_bl)) d_snil))) (fun _ => rfl))
      (d_sone (d_ret d_bl)))))) (fun ds O Q E h => ?_) (fun ds O Q E h => h)
  · obtain ⟨v, c, r, rfl, _⟩ := h; rfl
  · obtain ⟨v, c, r, rfl, hv, q⟩ := h
    rw [show startD N_is_step [v, .int c, .int r] = [.sh v, .sh (.int c), .sh (.int r), .un, .un] from rfl]
    obtain ⟨hv, hx⟩ := hv
    cases v with
    | tup xs =>
      refine ⟨rfl, rfl, ?_⟩
      cases xs with
      | nil => exact q
      | cons x xs =>
        have hx0 := hx _ rfl x List.mem_cons_self
        cases x with
        | str z =>
          refine ix0 ⟨rfl, rfl, ?_⟩
          refine ix0 ⟨rfl, ?_⟩
          show bc (!(formsT.lookup z).isSome) _ _
          cases e : formsT.lookup z with
          | none =>
            simp only [isStp, e] at q
            exact q
          | some d =>
            obtain ⟨fm, rfl, hf⟩ := forms_str z d e
            simp only [isStp, e] at q
            have fs : fm.length ≤ sizeLine := Nat.le_trans hf (by decide)
            have ix : ∀ Q : D → Prop, Q (.str fm) → ixK aF formsT (.opq (.ref aF)) (.str z) Q := fun Q q => ⟨rfl, by rw [e]; exact q⟩
            refine ix0 (ix _ ⟨fs, ?_⟩)
            show bc (!decide (((xs.length + 1 : Nat) : Int) = 1 + (fm.length : Int))) _ _
            by_cases hl : xs.length = fm.length
            · rw [decide_eq_true (by omega)]
              rw [decide_eq_true hl, Bool.true_and] at q
              refine ix0 (ix _ (val_sl1 (.str z) xs (fun Q E q => q) _ _ ?_))
              show forW tt1 _ _ _ (zipL (charsD fm) xs) _ _
              rw [zipL_chars]
              have hfl : ∀ p ∈ (co fm).zip xs, Flat p.2 := fun p hp => hx _ rfl _ (List.mem_cons_of_mem _ (List.of_mem_zip hp).2)
              generalize (co fm).zip xs = ps at q hfl
              refine (?_ : ∀ s3 s4 : Sl, forW tt1 _ _ _ _ [_, _, _, s3, s4] _) .un .un
              induction ps with
              | nil => exact fun s3 s4 => ⟨trivial, q⟩
              | cons p ps ih =>
                intro s3 s4
                obtain ⟨k, it⟩ := p
                have hit := hfl _ List.mem_cons_self
                have ih := fun q => ih q fun p hp => hfl p (List.mem_cons_of_mem _ hp)
                rw [List.all_cons] at q
                refine ⟨trivial, rfl, ?_⟩
                show bc (decide ((⟨#[k]⟩ : Str) = "t")) _ _
                rw [one_t]
                by_cases hk : k = 116
                · subst hk
                  refine spM.of ⟨it, rfl, hit.1, hit.2, ?_⟩
                  show bc (!(isNm it)) _ _
                  simp only [kindOk, if_true] at q
                  cases hn : isNm it with
                  | false =>
                    rw [hn, Bool.false_and] at q
                    exact q
                  | true =>
                    rw [hn, Bool.true_and] at q
                    exact ih q _ _
                · rw [decide_eq_false hk]
                  show bc (!decide ((⟨#[k]⟩ : Str) = "t")) _ _
                  rw [one_t, decide_eq_false hk]
                  show bc (decide ((⟨#[k]⟩ : Str) = "c")) _ _
                  rw [one_c]
                  simp only [kindOk, if_neg hk] at q
                  by_cases hc : k = 99
                  · rw [if_pos hc] at q
                    rw [decide_eq_true hc]
                    refine ⟨trivial, spM.of ⟨it, 0, c - 1, rfl, hit.1, ?_⟩⟩
                    show bc (!(isNum it 0 (c - 1))) _ _
                    cases hn : isNum it 0 (c - 1) with
                    | false =>
                      rw [hn, Bool.false_and] at q
                      exact q
                    | true =>
                      rw [hn, Bool.true_and] at q
                      exact ih q _ _
                  · rw [if_neg hc] at q
                    rw [decide_eq_false hc]
                    refine ⟨trivial, spM.of ⟨it, 0, r - 1, rfl, hit.1, ?_⟩⟩
                    show bc (!(isNum it 0 (r - 1))) _ _
                    cases hn : isNum it 0 (r - 1) with
                    | false =>
                      rw [hn, Bool.false_and] at q
                      exact q
                    | true =>
                      rw [hn, Bool.true_and] at q
                      exact ih q _ _
            · rw [decide_eq_false (by omega)]
              rw [decide_eq_false hl, Bool.false_and] at q
              exact q
        | int => exact ix0 ⟨rfl, rfl, q⟩
        | bl => exact ix0 ⟨rfl, rfl, q⟩
        | non => exact ix0 ⟨rfl, rfl, q⟩
        | lst => exact ix0 ⟨rfl, rfl, q⟩
        | tup => exact ix0 ⟨rfl, rfl, q⟩
        | dic => exact ix0 ⟨rfl, rfl, q⟩
        | opq => cases hx0.1
        | ins => cases hx0.1
        | exc => cases hx0.1
        | lam => cases hx0.1
        | nk => cases hx0.1
    | int => exact ⟨rfl, rfl, q⟩
    | bl => exact ⟨rfl, rfl, q⟩
    | non => exact ⟨rfl, rfl, q⟩
    | lst => exact ⟨rfl, rfl, q⟩
    | str => exact ⟨rfl, rfl, q⟩
    | dic => exact ⟨rfl, rfl, q⟩
    | opq => cases hv
    | ins => cases hv
    | exc => cases hv
    | lam => cases hv
    | nk => cases hv
end
end LW
set_option Elab.async false
set_option linter.all false
set_option maxRecDepth 100000
set_option maxHeartbeats 4000000
set_option pp.maxSteps 400
namespace LW
open PySem PySem.Spec PyProof.Rows L2 EV
abbrev s_check_rows : Stmt := topS 26
abbrev N_check_rows : List Str := ["cells", "rows", "places", "at", "step"]
theorem sc_check_rows : FnScope N_check_rows ["cells", "rows"] (defScope s_check_rows) := ⟨rfl, rfl, rfl, by decide +kernel, rfl, by decide +kernel, by decide +kernel⟩
def lastT : List D := [.str "jump", .str "refuse", .str "end"]
def placesN : List (Str × Int) := [("has", 1), ("link", 2)]
abbrev Pls := List (Key × Int)
def toDic (pl : Pls) : List (Key × D) := pl.map fun p => (p.1, .int p.2)
def valI (pl : Pls) (k : Key) : Option Int := (pl.find? fun kv => decide (kv.1 = k)).map (·.2)
def putI (pl : Pls) (k : Key) (v : Int) : Pls := if (pl.any fun kv => decide (kv.1 = k)) = true then pl.map (fun kv => if kv.1 = k then (kv.1, v) else kv) else pl ++ [(k, v)]
theorem valD_dic (pl : Pls) (k : Key) : valD (toDic pl) k = (valI pl k).map D.int := by
  induction pl with
  | nil => rfl
  | cons p pl ih =>
    unfold valD valI toDic at ih ⊢
    simp only [List.map_cons, List.find?_cons]
    by_cases e : p.1 = k
    · simp [e]
    · simp only [e, decide_false]; exact ih
theorem putD_dic (pl : Pls) (k : Key) (v : Int) : putKD (toDic pl) k (.int v) = toDic (putI pl k v) := by
  have h : ((toDic pl).any fun kv => decide (kv.1 = k)) = (pl.any fun kv => decide (kv.1 = k)) := by simp [toDic, List.any_map, Function.comp_def]
  unfold putKD putI
  rw [h]
  split
  · simp only [toDic, List.map_map]
    refine List.map_congr_left fun p _ => ?_
    simp only [Function.comp_def]
    split <;> rfl
  · simp [toDic]
theorem putI_len (pl : Pls) (k : Key) (v : Int) : (putI pl k v).length ≤ pl.length + 1 := by
  unfold putI
  split <;> simp
theorem places_look (z : Str) : placesT.lookup z = (placesN.lookup z).map D.int := by
  simp only [placesT, placesN, List.lookup]
  split <;> first | rfl | (split <;> rfl)
/-- the first row that cannot stand -/
def rowsBad (c n : Int) : List D → Nat → Pls → Option Nat
  | [], _, _ => none
  | d :: ds, i, pl => if isStp d c n = false then some i else match d with
    | .tup (.str z :: xs) => match placesN.lookup z, xs with
      | some v, .str y :: _ => if (valI pl (.inr y)).getD v = v then rowsBad c n ds (i + 1) (putI pl (.inr y) v) else some i
      | some _, _ => some i
      | none, _ => rowsBad c n ds (i + 1) pl
    | _ => some i
def lastOk : D → Bool
  | .tup (.str z :: _) => (["jump", "refuse", "end"] : List Str).any fun y => decide (z = y)
  | _ => false
def chkRows (c : Int) (rs : List D) : Option Nat := match rowsBad c rs.length rs 0 [] with
  | some i => some i
  | none => match rs.getLast? with
    | none => some 0
    | some d => if lastOk d then none else some (rs.length - 1)
def stepX (C : Addr) (i : Nat) : Xc := (C, errD "InvalidStep" ["at"] [.int i])
def rowsS (C : Addr) : DSp := fun ds O Q E => ∃ c d rs, ds = [.int c, d] ∧ (d = .lst rs ∨ d = .tup rs) ∧ rs.length < sizeLine ∧ (∀ r ∈ rs, Flat1 r) ∧ (chkRows c rs = none → Q .non O) ∧ ∀ i, chkRows c rs = some i → E (stepX C i) O
theorem stp_form {d : D} {c n : Int} (h : isStp d c n = true) : ∃ z xs, d = .tup (.str z :: xs) := by
  unfold isStp at h
  split at h
  · exact ⟨_, _, rfl⟩
  · cases h
theorem bad_all {c n : Int} : ∀ {ds : List D} {i : Nat} {pl : Pls}, rowsBad c n ds i pl = none → ∀ r ∈ ds, isStp r c n = true
  | [], _, _, _, r, h => by cases h
  | d :: ds, i, pl, e, r, h => by
    unfold rowsBad at e
    split at e
    · cases e
    rename_i h1
    have h1 : isStp d c n = true := by simpa using h1
    rcases List.mem_cons.mp h with rfl | h2
    · exact h1
    split at e
    · split at e
      · split at e
        · exact bad_all e r h2
        · cases e
      · cases e
      · exact bad_all e r h2
    · cases e
theorem nm_str {d : D} (h : isNm d = true) : ∃ y, d = .str y := by
  unfold isNm at h
  split at h
  · exact ⟨_, rfl⟩
  · cases h
theorem stp_place {z : Str} {xs : List D} {c n v : Int} (h : isStp (.tup (.str z :: xs)) c n = true) (hp : placesN.lookup z = some v) : ∃ y xs', xs = .str y :: xs' := by
  have hz : z = "has" ∨ z = "link" := by
    by_cases h1 : z = "has"
    · exact .inl h1
    by_cases h2 : z = "link"
    · exact .inr h2
    have e1 : (z == ("has" : Str)) = false := beq_eq_false_iff_ne.mpr h1
    have e2 : (z == ("link" : Str)) = false := beq_eq_false_iff_ne.mpr h2
    simp [placesN, List.lookup, e1, e2] at hp
  have core : ∀ fm : Str, formsT.lookup z = some (.str fm) → (∃ r, co fm = 116 :: r) → ∃ y xs', xs = .str y :: xs' := by
    intro fm e ⟨r, er⟩
    simp only [isStp, e, Bool.and_eq_true, decide_eq_true_eq] at h
    obtain ⟨h1, h2⟩ := h
    cases xs with
    | nil => rw [← co_len, er] at h1; cases h1
    | cons x xs =>
      rw [er, List.zip_cons_cons, List.all_cons, Bool.and_eq_true] at h2
      have : isNm x = true := by simpa [kindOk] using h2.1
      obtain ⟨y, rfl⟩ := nm_str this
      exact ⟨y, xs, rfl⟩
  rcases hz with rfl | rfl
  · exact core "tcj" (by rfl) ⟨[99, 106], by decide +kernel⟩
  · exact core "tccj" (by rfl) ⟨[99, 99, 106], by decide +kernel⟩
theorem val_dget2 {ma mb mc : DE} {ρ : Slots} {O : Ow} (x y z : D) (kds : List (Key × D)) (k : Key) (ha : ∀ Q E, Q x O → ma ρ O Q E) (hb : ∀ Q E, Q y O → mb ρ O Q E) (hc : ∀ Q E, Q z O → mc ρ O Q E) (e : lk O x = .dic kds) (ey : y = kD k) : ∀ Q E, Q ((valD kds k).getD z) O → dDGet2 ma mb mc ρ O Q E := fun Q E q => ha _ _ ⟨by rw [e]; trivial, hb _ _ (hc _ _ (by rw [e]; exact ⟨k, ey, q⟩))⟩
theorem st_dput {ma mb mv : DE} {A : DEnds} {ρ : Slots} {O : Ow} (p : Addr) (y v : D) (kds : List (Key × D)) (k : Key) (ha : ∀ Q E, Q (.opq (.ref p)) O → ma ρ O Q E) (hb : ∀ Q E, Q y O → mb ρ O Q E) (hv : ∀ Q E, Q v O → mv ρ O Q E) (eo : O p = some (.dic kds)) (ey : y = kD k) (hl : kds.length < sizeLine) (n : A.nx ρ (oset O p (.dic (putKD kds k v)))) : dDPut ma mb mv A ρ O := hv _ _ (ha _ _ (hb _ _ ⟨kds, k, eo, ey, hl, n⟩))
section
variable {P : Program} {w : World} {K : PySem.W.Frag} {mg : Str → Option Value} {base : Heap}
theorem ok_check_rows {f fS aP aL C : Addr} {fd fdS : FuncData} (F : Fun K "check_rows" "check_rows" s_check_rows f fd) (G_is_step : FnOk P w K mg base CX0 2 fS fdS ["value", "cells", "rows"] (spD K stepS)) (T_is_step : Gf K mg "is_step" fS fdS ["value", "cells", "rows"])
    (m_len : mg "len" = none) (m_enumerate : mg "enumerate" = none) (M_PLACES : mg "PLACES" = some (.ref aP)) (T_PLACES : TabK K w aP placesT) (M_LAST : mg "LAST" = some (.ref aL)) (B_LAST : gtupB K aL lastT = true)
    (E_InvalidStep : Err P w K mg base 2 C "InvalidStep" ["at"]) (M_InvalidStep : mg "InvalidStep" = some (.ref C)) :
    FnOk P w K mg base (L2.CX P w) 3 f fd ["cells", "rows"] (spD K (rowsS C)) := by
  refine fn_excF F sc_check_rows (fun ds O Q E h => ?_) (fun cdv A outer s H E hr tk =>
    (d_scons (d_set (i := 2) sc_check_rows.nd rfl (.inl rfl) d_dnew rfl (.inl rfl))
      (d_scons (d_for (passes_of rfl) rfl (d_enum rfl m_enumerate (d_cons (d_var (i := 1) rfl (.inl rfl) (by decide) (by decide)) d_nil rfl) rfl) (dg_tup (n := 2) rfl (dgs_cons (dg_name (i := 3) sc_check_rows.nd rfl (.inl rfl) (.inl rfl)) (dgs_cons (dg_name (i := 4) sc_check_rows.nd rfl (.inl rfl) (.inl rfl)) dgs_nil rfl) rfl) rfl rfl) (d_scons (d_ifS (d_tnot (d_test (d_call G_is_step (hr.mono (by decide)) rfl T_is_step.m T_is_step.k T_is_step.b (fun _ => pass0A) (d_cons (d_var (i := 4) rfl (.inl rfl) (by decide) (by decide)) (d_cons (d_var (i := 0) rfl (.inl rfl) (by decide) (by decide)) (d_cons (d_callB cd_len rfl m_len boot_len (d_cons (d_var (i := 1) rfl (.inl rfl) (by decide) (by decide)) d_nil rfl) (by decide) (by decide) rfl rfl) d_nil rfl) rfl) rfl) (by decide) rfl rfl) (by intro _; rfl))) (d_sone (d_raise rfl tk E_InvalidStep (hr.mono (by decide)) rfl M_InvalidStep (d_cons (d_var (i := 3) rfl (.inl rfl) (by decide) (by decide)) d_nil rfl) (by decide) rfl rfl)) d_snil)
      (d_sone (d_ifS (d_tcmp (od_inK T_PLACES) (d_ix (d_var (i := 4) rfl (.inl rfl) (by decide) (by decide)) d_int (fun _ _ => rfl)) (d_gdict rfl M_PLACES (by decide)) rfl) (d_scons (d_ifS (d_tcmp (od_ne hr.units) (d_dget2 (hud hr) (d_var (i := 2) rfl (.inl rfl) (by decide) (by decide)) (d_ix (d_var (i := 4) rfl (.inl rfl) (by decide) (by decide)) d_int (fun _ _ => rfl)) (d_ixK T_PLACES (d_gdict rfl M_PLACES (by decide)) (d_ix (d_var (i := 4) rfl (.inl rfl) (by decide) (by decide)) d_int (fun _ _ => rfl)) (fun _ _ => rfl)) ⟨rfl, rfl, rfl, rfl⟩) (d_ixK T_PLACES (d_gdict rfl M_PLACES (by decide)) (d_ix (d_var (i := 4) rfl (.inl rfl) (by decide) (by decide)) d_int (fun _ _ => rfl)) (fun _ _ => rfl)) (nomark _)) (d_sone (d_raise rfl tk E_InvalidStep (hr.mono (by decide)) rfl M_InvalidStep (d_cons (d_var (i := 3) rfl (.inl rfl) (by decide) (by decide)) d_nil rfl) (by decide) rfl rfl)) d_snil)
      (d_sone (d_dput (hud hr) (d_var (i := 2) rfl (.inl rfl) (by decide) (by decide)) (d_ix (d_var (i := 4) rfl (.inl rfl) (by decide) (by decide)) d_int (fun _ _ => rfl)) (d_ixK T_PLACES (d_gdict rfl M_PLACES (by decide)) (d_ix (d_var (i := 4) rfl (.inl rfl) (by decide) (by decide)) d_int (fun _ _ => rfl)) (fun _ _ => rfl)) rfl))) d_snil))) (fun _ => rfl))
      (d_scons (d_ifS (d_tcmp (od_eq hr.units) (d_callB cd_len rfl m_len boot_len (d_cons (d_var (i := 1) rfl (.inl rfl) (by decide) (by decide)) d_nil rfl) (by decide) (by decide) rfl rfl) d_int (nomark _)) (d_sone (d_raise rfl tk E_InvalidStep (hr.mono (by decide)) rfl M_InvalidStep (d_cons d_int d_nil rfl) (by decide) rfl rfl)) d_snil)
      (d_sone (d_ifS (d_tcmp od_notinS (d_ix (d_ix (d_var (i := 1) rfl (.inl rfl) (by decide) (by decide)) (d_neg d_int) (fun _ _ => rfl)) d_int (fun _ _ => rfl)) (d_gtup B_LAST rfl M_LAST (by decide)) rfl) (d_sone (d_raise rfl tk E_InvalidStep (hr.mono (by decide)) rfl M_InvalidStep (d_cons (d_op od_sub (d_callB cd_len rfl m_len boot_len (d_cons (d_var (i := 1) rfl (.inl rfl) (by decide) (by decide)) d_nil rfl) (by decide) (by decide) rfl rfl) d_int) d_nil rfl) (by decide) rfl rfl)) d_snil)))))) (fun ds O Q E h => ?_)
  · obtain ⟨c, d, rs, rfl, _⟩ := h; rfl
  · obtain ⟨c, d, rs, rfl, hd, hl, hr, q, qx⟩ := h
    rw [show startD N_check_rows [.int c, d] = [.sh (.int c), .sh d, .un, .un, .un] from rfl]
    intro p np
    refine st_norm (ρ' := [.sh (.int c), .sh d, .sh (.opq (.ref p)), .un, .un]) rfl ?_
    dsimp only
    refine st_for (enumL rs) ?_ ?_
    · exact val_enum hd fun Q E q => q
    have sO : ∀ x, OSub O (oset O p x) := fun x => OSub.new np
    have dlen : ∀ pl : Pls, (toDic pl).length = pl.length := fun pl => by simp [toDic]
    show forW tt1 _ _ _ ((rs.zipIdx 0).map fun q => D.tup [.int q.2, q.1]) _ (oset O p (.dic (toDic [])))
    obtain ⟨R, hR⟩ : ∃ R, R = rowsBad c rs.length rs 0 [] := ⟨_, rfl⟩
    refine (?_ : ∀ (ds : List D) (i : Nat) (pl : Pls) (s3 s4 : Sl), (∀ r ∈ ds, Flat1 r) → i + ds.length = rs.length → pl.length ≤ i → rowsBad c rs.length ds i pl = R → forW tt1 _ _ _ ((ds.zipIdx i).map fun q => D.tup [.int q.2, q.1]) [.sh (.int c), .sh d, .sh (.opq (.ref p)), s3, s4] (oset O p (.dic (toDic pl)))) rs 0 [] .un .un hr (by simp) (by simp) hR.symm
    intro ds
    induction ds with
    | nil =>
      intro i pl s3 s4 _ hi _ hb
      have e0 : rowsBad c rs.length rs 0 [] = none := by rw [← hR]; exact hb.symm
      refine ⟨trivial, ?_⟩
      dsimp only
      refine st_if (decide ((rs.length : Int) = 0)) ?_ ?_
      · exact val_tstB _ (val_op (.int rs.length) (.int 0) _ (val_len hd fun Q E q => q) (fun Q E q => q) (fun Q q => q))
      by_cases hz : rs = []
      · have hb' : chkRows c rs = some 0 := by unfold chkRows; rw [e0, hz]; rfl
        rw [decide_eq_true (by rw [hz]; rfl)]
        refine bcT (val_raise [.int 0] rfl ?_ ?_)
        · exact fun Q E q => q
        · exact ⟨O, sO _, qx 0 hb'⟩
      · obtain ⟨xs, y, exs⟩ : ∃ xs y, rs = xs ++ [y] := ⟨rs.dropLast, rs.getLast hz, (List.dropLast_concat_getLast hz).symm⟩
        have hl0 : 0 < rs.length := List.length_pos_iff.mpr hz
        rw [decide_eq_false (by omega)]
        have hy : isStp y c rs.length = true := bad_all e0 y (by rw [exs]; simp)
        obtain ⟨z, zs, rfl⟩ := stp_form hy
        have hlast : rs.getLast? = some (.tup (.str z :: zs)) := by rw [exs]; simp
        have hck : chkRows c rs = if lastOk (.tup (.str z :: zs)) then none else some (rs.length - 1) := by
          unfold chkRows; rw [e0, hlast]
        refine bcN ?_
        dsimp only
        refine st_if1 (!lastOk (.tup (.str z :: zs))) ?_ ?_
        · exact val_tstB _ (val_op (.str z) (.tup lastT) _ (val_ix (.inr rfl) (val_ix hd (fun Q E q => q) (i := -1) (fun Q E q => q) (by rw [exs]; exact atI_last _ _)) (fun Q E q => q) (atI_nat (xs := .str z :: zs) (j := 0) rfl)) (fun Q E q => q) (fun Q q => q))
        cases hk : lastOk (.tup (.str z :: zs)) with
        | true =>
          rw [hk, if_pos rfl] at hck
          exact ⟨O, sO _, q hck⟩
        | false =>
          rw [hk, if_neg (by decide)] at hck
          refine bcT (val_raise [.int ((rs.length : Int) - 1)] rfl ?_ ?_)
          · exact val_cons _ _ (val_op (.int rs.length) (.int 1) _ (val_len hd fun Q E q => q) (fun Q E q => q) (fun Q q => ⟨trivial, q⟩)) val_nil
          · have := qx _ hck
            unfold stepX at this
            rw [show ((rs.length - 1 : Nat) : Int) = (rs.length : Int) - 1 by omega] at this
            exact ⟨O, sO _, this⟩
    | cons r ds ih =>
      intro i pl s3 s4 hfl hi hpl hb
      have bad : R = some i → chkRows c rs = some i := fun h => by unfold chkRows; rw [← hR, h]
      have fr := hfl r List.mem_cons_self
      refine ⟨trivial, rfl, ?_⟩
      refine tg_pair [.sh (.int c), .sh d, .sh (.opq (.ref p)), .sh (.int i), .sh r] rfl ?_
      dsimp only
      refine st_if (!isStp r c rs.length) ?_ ?_
      · exact val_not _ (val_tst _ (val_call [r, .int c, .int rs.length] _ (val_cons _ _ (fun Q E q => q) (val_cons _ _ (fun Q E q => q) (val_cons _ _ (val_len hd fun Q E q => q) val_nil))) (fun Q E q => ⟨r, c, rs.length, rfl, fr, q⟩)))
      unfold rowsBad at hb
      cases hs : isStp r c rs.length with
      | false =>
        rw [hs, if_pos rfl] at hb
        refine bcT (val_raise [.int i] rfl ?_ ?_)
        · exact fun Q E q => q
        · exact ⟨O, sO _, qx i (bad hb.symm)⟩
      | true =>
        rw [hs, if_neg (by decide)] at hb
        obtain ⟨z, zs, rfl⟩ := stp_form hs
        dsimp only at hb
        have v0 : ∀ O' Q E, Q (.str z) O' → dOp ixD (dVar 4) (dC (.int 0)) [.sh (.int c), .sh d, .sh (.opq (.ref p)), .sh (.int i), .sh (.tup (.str z :: zs))] O' Q E := fun O' => val_ix (.inr rfl) (fun Q E q => q) (fun Q E q => q) (atI_nat (xs := .str z :: zs) (j := 0) rfl)
        refine bcN ?_
        dsimp only
        refine st_if1 (placesN.lookup z).isSome ?_ ?_
        · refine val_tstB _ (val_op (.str z) (.opq (.ref aP)) _ (v0 _) (fun Q E q => q) (fun Q q => ⟨rfl, ?_⟩))
          rw [places_look]
          simpa using q
        have nxt : ∀ pl', pl'.length ≤ i + 1 → rowsBad c rs.length ds (i + 1) pl' = R → _ := fun pl' h1 h2 => ih (i + 1) pl' (.sh (.int i)) (.sh (.tup (.str z :: zs))) (fun r hr => hfl r (List.mem_cons_of_mem _ hr)) (by simp at hi; omega) h1 h2
        cases hv : placesN.lookup z with
        | none =>
          rw [hv] at hb
          refine bcN ?_
          dsimp only
          exact nxt pl (by omega) hb
        | some v =>
          obtain ⟨y, ys, rfl⟩ := stp_place hs hv
          rw [hv] at hb
          dsimp only at hb
          have v1 : ∀ O' Q E, Q (.str y) O' → dOp ixD (dVar 4) (dC (.int 1)) [.sh (.int c), .sh d, .sh (.opq (.ref p)), .sh (.int i), .sh (.tup (.str z :: .str y :: ys))] O' Q E := fun O' => val_ix (.inr rfl) (fun Q E q => q) (fun Q E q => q) (atI_nat (xs := .str z :: .str y :: ys) (j := 1) rfl)
          have vP : ∀ O' Q E, Q (.int v) O' → dOp (pu (ixK aP placesT)) (dC (.opq (.ref aP))) (dOp ixD (dVar 4) (dC (.int 0))) [.sh (.int c), .sh d, .sh (.opq (.ref p)), .sh (.int i), .sh (.tup (.str z :: .str y :: ys))] O' Q E := fun O' => val_ixK z (.int v) (fun Q E q => q) (v0 O') (by rw [places_look, hv]; rfl)
          refine bcT ?_
          refine st_if (!decide ((valI pl (.inr y)).getD v = v)) ?_ ?_
          · refine val_tstB _ (val_op (.int ((valI pl (.inr y)).getD v)) (.int v) _ ?_ (vP _) (fun Q q => q))
            have := val_dget2 (ma := dVar 2) (ρ := [.sh (.int c), .sh d, .sh (.opq (.ref p)), .sh (.int i), .sh (.tup (.str z :: .str y :: ys))]) (.opq (.ref p)) (.str y) (.int v) (toDic pl) (.inr y) (fun Q E q => q) (v1 (oset O p (.dic (toDic pl)))) (vP _) (lk_of oset_same) rfl
            rw [valD_dic, show ((valI pl (.inr y)).map D.int).getD (.int v) = .int ((valI pl (.inr y)).getD v) by cases valI pl (.inr y) <;> rfl] at this
            exact this
          by_cases hk : (valI pl (.inr y)).getD v = v
          · rw [if_pos hk] at hb
            rw [decide_eq_true hk]
            refine bcN ?_
            dsimp only
            refine st_dput p (.str y) (.int v) (toDic pl) (.inr y) (fun Q E q => q) (v1 _) (vP _) oset_same rfl (by rw [dlen]; simp at hi; omega) ?_
            rw [oset_oset, putD_dic]
            exact nxt _ (Nat.le_trans (putI_len pl _ _) (by omega)) hb
          · rw [if_neg hk] at hb
            rw [decide_eq_false hk]
            refine bcT (val_raise [.int i] rfl ?_ ?_)
            · exact fun Q E q => q
            · exact ⟨O, sO _, qx i (bad hb.symm)⟩
end
end LW
set_option Elab.async false
set_option linter.all false
set_option maxRecDepth 100000
set_option maxHeartbeats 4000000
set_option pp.maxSteps 400
namespace LW
open PySem PySem.Spec PyProof.Rows L2 EV
abbrev s_Reader_init : Stmt := clsS 27 1
abbrev N_Reader_init : List Str := ["self", "cells", "rows", "inputs", "at", "most"]
theorem sc_Reader_init : FnScope N_Reader_init ["self", "cells", "rows", "inputs"] (defScope s_Reader_init) := ⟨rfl, rfl, rfl, by decide +kernel, rfl, by decide +kernel, by decide +kernel⟩
/-- the first cell with a wrong range -/
def cellBad (cs : List D) : Option Nat := (List.range cs.length).find? fun i => !isNum (cs.getD i .non) 0 10000
def isZero : D → Bool
  | .int k => decide (k = 0)
  | _ => false
/-- the first of the first cells that is not narrow -/
def wideAt (cs : List D) (n : Nat) : Option Nat := (List.range n).find? fun i => !isZero (cs.getD i .non)
def rdX (A : Str → Addr) (cs rs : List D) (inp : D) : Option Xc :=
  if 300 < cs.length then some (A "TooMany", errD "TooMany" ["most"] [.int 300])
  else match cellBad cs with
    | some i => some (A "InvalidCell", errD "InvalidCell" ["at"] [.int i])
    | none => if isNum inp 0 cs.length = false then some (A "InvalidNumber", errD "InvalidNumber" ["given"] [inp])
      else match inp with
        | .int n => match wideAt cs n.toNat with
          | some i => some (A "InvalidCell", errD "InvalidCell" ["at"] [.int i])
          | none => if 10000 < rs.length then some (A "TooMany", errD "TooMany" ["most"] [.int 10000])
            else (chkRows cs.length rs).map fun i => stepX (A "InvalidStep") i
        | _ => none
def rdF (cs rs : List D) (inp : D) : List (Str × D) := [("cells", .tup cs), ("rows", .tup rs), ("inputs", inp)]
def iniS (A : Str → Addr) (C : Addr) : DSp := fun ds O Q E => ∃ p dc dr inp cs rs, ds = [.opq (.ref p), dc, dr, inp] ∧ O p = some (.ins C []) ∧ Seq dc cs ∧ Seq dr rs ∧ cs.length ≤ sizeLine ∧ rs.length < sizeLine ∧ (∀ c ∈ cs, (tyD c).isSome = true) ∧ (tyD inp).isSome = true ∧ (∀ r ∈ rs, Flat1 r) ∧
  (rdX A cs rs inp = none → Q .non (oset O p (.ins C (rdF cs rs inp)))) ∧ ∀ x, rdX A cs rs inp = some x → E x O
section
variable {P : Program} {w : World} {K : PySem.W.Frag} {mg : Str → Option Value} {base : Heap}
theorem ok_Reader_init {f fN fR C : Addr} {fd fdN fdR : FuncData} {AA : Str → Addr} (F : Fun K "__init__" "Reader.__init__" s_Reader_init f fd)
    (G_is_number : FnOk P w K mg base CX0 1 fN fdN ["value", "least", "most"] (spD K numS)) (T_is_number : Gf K mg "is_number" fN fdN ["value", "least", "most"])
    (G_check_rows : FnOk P w K mg base (L2.CX P w) 3 fR fdR ["cells", "rows"] (spD K (rowsS (AA "InvalidStep")))) (T_check_rows : Gf K mg "check_rows" fR fdR ["cells", "rows"])
    (m_len : mg "len" = none) (m_enumerate : mg "enumerate" = none) (m_range : mg "range" = none) (m_tuple : mg "tuple" = none) {t1 t2 t3 : Tok} (M_MOST_CELLS : mg "MOST_CELLS" = some (.int 300 t1)) (M_MOST_ROWS : mg "MOST_ROWS" = some (.int 10000 t2)) (M_MOST_RANGE : mg "MOST_RANGE" = some (.int 10000 t3))
    (E_TooMany : Err P w K mg base 2 (AA "TooMany") "TooMany" ["most"]) (M_TooMany : mg "TooMany" = some (.ref (AA "TooMany")))
    (E_InvalidCell : Err P w K mg base 2 (AA "InvalidCell") "InvalidCell" ["at"]) (M_InvalidCell : mg "InvalidCell" = some (.ref (AA "InvalidCell")))
    (E_InvalidNumber : Err P w K mg base 2 (AA "InvalidNumber") "InvalidNumber" ["given"]) (M_InvalidNumber : mg "InvalidNumber" = some (.ref (AA "InvalidNumber")))
    (CL_Reader : Cls K C) (NA_Reader_cells : NoAttr K C "cells") (NA_Reader_rows : NoAttr K C "rows") (NA_Reader_inputs : NoAttr K C "inputs") :
    FnOk P w K mg base (L2.CX P w) 4 f fd ["self", "cells", "rows", "inputs"] (spD K (iniS AA C)) := by
  refine fn_excF F sc_Reader_init (fun ds O Q E h => ?_) (fun cdv A outer s H E hr tk =>
    (d_scons (d_ifS (d_tcmp od_gt (d_callB cd_len rfl m_len boot_len (d_cons (d_var (i := 1) rfl (.inl rfl) (by decide) (by decide)) d_nil rfl) (by decide) (by decide) rfl rfl) (d_globI rfl M_MOST_CELLS (by decide)) (nomark _)) (d_sone (d_raise rfl tk E_TooMany (hr.mono (by decide)) rfl M_TooMany (d_cons (d_globI rfl M_MOST_CELLS (by decide)) d_nil rfl) (by decide) rfl rfl)) d_snil)
      (d_scons (d_for (passes_of rfl) rfl (d_enum rfl m_enumerate (d_cons (d_var (i := 1) rfl (.inl rfl) (by decide) (by decide)) d_nil rfl) rfl) (dg_tup (n := 2) rfl (dgs_cons (dg_name (i := 4) sc_Reader_init.nd rfl (.inl rfl) (.inl rfl)) (dgs_cons (dg_name (i := 5) sc_Reader_init.nd rfl (.inl rfl) (.inl rfl)) dgs_nil rfl) rfl) rfl rfl) (d_sone (d_ifS (d_tnot (d_test (d_call G_is_number (hr.mono (by decide)) rfl T_is_number.m T_is_number.k T_is_number.b (fun _ => pass0A) (d_cons (d_var (i := 5) rfl (.inl rfl) (by decide) (by decide)) (d_cons d_int (d_cons (d_globI rfl M_MOST_RANGE (by decide)) d_nil rfl) rfl) rfl) (by decide) rfl rfl) (by intro _; rfl))) (d_sone (d_raise rfl tk E_InvalidCell (hr.mono (by decide)) rfl M_InvalidCell (d_cons (d_var (i := 4) rfl (.inl rfl) (by decide) (by decide)) d_nil rfl) (by decide) rfl rfl)) d_snil)) (fun _ => rfl))
      (d_scons (d_ifS (d_tnot (d_test (d_call G_is_number (hr.mono (by decide)) rfl T_is_number.m T_is_number.k T_is_number.b (fun _ => pass0A) (d_cons (d_var (i := 3) rfl (.inl rfl) (by decide) (by decide)) (d_cons d_int (d_cons (d_callB cd_len rfl m_len boot_len (d_cons (d_var (i := 1) rfl (.inl rfl) (by decide) (by decide)) d_nil rfl) (by decide) (by decide) rfl rfl) d_nil rfl) rfl) rfl) (by decide) rfl rfl) (by intro _; rfl))) (d_sone (d_raise rfl tk E_InvalidNumber (hr.mono (by decide)) rfl M_InvalidNumber (d_cons (d_var (i := 3) rfl (.inl rfl) (by decide) (by decide)) d_nil rfl) (by decide) rfl rfl)) d_snil)
      (d_scons (d_for (passes_of rfl) rfl (d_rng1 rfl m_range (d_cons (d_var (i := 3) rfl (.inl rfl) (by decide) (by decide)) d_nil rfl) rfl) (dg_name (i := 4) sc_Reader_init.nd rfl (.inl rfl) (.inl rfl)) (d_sone (d_ifS (d_tcmp (od_ne hr.units) (d_ix (d_var (i := 1) rfl (.inl rfl) (by decide) (by decide)) (d_var (i := 4) rfl (.inl rfl) (by decide) (by decide)) (fun _ _ => rfl)) d_int (nomark _)) (d_sone (d_raise rfl tk E_InvalidCell (hr.mono (by decide)) rfl M_InvalidCell (d_cons (d_var (i := 4) rfl (.inl rfl) (by decide) (by decide)) d_nil rfl) (by decide) rfl rfl)) d_snil)) (fun _ => rfl))
      (d_scons (d_ifS (d_tcmp od_gt (d_callB cd_len rfl m_len boot_len (d_cons (d_var (i := 2) rfl (.inl rfl) (by decide) (by decide)) d_nil rfl) (by decide) (by decide) rfl rfl) (d_globI rfl M_MOST_ROWS (by decide)) (nomark _)) (d_sone (d_raise rfl tk E_TooMany (hr.mono (by decide)) rfl M_TooMany (d_cons (d_globI rfl M_MOST_ROWS (by decide)) d_nil rfl) (by decide) rfl rfl)) d_snil)
      (d_scons (d_expr (d_call G_check_rows (hr.mono (by decide)) rfl T_check_rows.m T_check_rows.k T_check_rows.b (fun σ => tk_pass tk σ) (d_cons (d_callB cd_len rfl m_len boot_len (d_cons (d_var (i := 1) rfl (.inl rfl) (by decide) (by decide)) d_nil rfl) (by decide) (by decide) rfl rfl) (d_cons (d_var (i := 2) rfl (.inl rfl) (by decide) (by decide)) d_nil rfl) rfl) (by decide) rfl rfl) rfl)
      (d_scons (d_setF CL_Reader NA_Reader_cells (d_var (i := 0) rfl (.inl rfl) (by decide) (by decide)) (d_callTy cd_tuple rfl m_tuple boot_tuple (d_cons (d_var (i := 1) rfl (.inl rfl) (by decide) (by decide)) d_nil rfl) (by decide) (by decide) rfl rfl) rfl)
      (d_scons (d_setF CL_Reader NA_Reader_rows (d_var (i := 0) rfl (.inl rfl) (by decide) (by decide)) (d_callTy cd_tuple rfl m_tuple boot_tuple (d_cons (d_var (i := 2) rfl (.inl rfl) (by decide) (by decide)) d_nil rfl) (by decide) (by decide) rfl rfl) rfl)
      (d_sone (d_setF CL_Reader NA_Reader_inputs (d_var (i := 0) rfl (.inl rfl) (by decide) (by decide)) (d_var (i := 3) rfl (.inl rfl) (by decide) (by decide)) rfl))))))))))) (fun ds O Q E h => ?_)
  · obtain ⟨p, dc, dr, inp, cs, rs, rfl, _⟩ := h; rfl
  · obtain ⟨p, dc, dr, inp, cs, rs, rfl, ep, hc, hr, lc, lr, tc, ti, tr, q, qx⟩ := h
    rw [show startD N_Reader_init [.opq (.ref p), dc, dr, inp] = [.sh (.opq (.ref p)), .sh dc, .sh dr, .sh inp, .un, .un] from rfl]
    have R0 : rdX AA cs rs inp = rdX AA cs rs inp := rfl
    conv at R0 => rhs; unfold rdX
    refine st_if (decide ((300 : Int) < (cs.length : Int))) ?_ ?_
    · exact val_tstB _ (val_op (.int cs.length) (.int 300) _ (val_len hc fun Q E q => q) (fun Q E q => q) (fun Q q => q))
    by_cases h1 : 300 < cs.length
    · rw [if_pos h1] at R0
      rw [decide_eq_true (by omega)]
      refine bcT (val_raise [.int 300] rfl ?_ ?_)
      · exact fun Q E q => q
      · exact ⟨O, OSub.refl O, qx _ R0⟩
    rw [if_neg h1] at R0
    rw [decide_eq_false (by omega)]
    refine bcN ?_
    dsimp only
    refine st_forJ (enumL cs) (fun i ρ => (∃ s4 s5, ρ = [.sh (.opq (.ref p)), .sh dc, .sh dr, .sh inp, s4, s5]) ∧ ∀ j, j < i → isNum (cs.getD j .non) 0 10000 = true) ?_ ⟨⟨_, _, rfl⟩, fun j h => by omega⟩ ?_ ?_
    · exact val_enum hc fun Q E q => q
    · rintro i d hd ρ ⟨⟨s4, s5, rfl⟩, hj⟩ N hN
      obtain ⟨x, ex, rfl⟩ := enum_at hd
      have hi : i < cs.length := (List.getElem?_eq_some_iff.mp ex).1
      refine tg_tup rfl (tg_pair [.sh (.opq (.ref p)), .sh dc, .sh dr, .sh inp, .sh (.int i), .sh x] rfl ?_)
      refine st_if1 (!isNum x 0 10000) ?_ ?_
      · exact val_not _ (val_tst _ (val_call [x, .int 0, .int 10000] _ (fun Q E q => q) (fun Q E q => ⟨x, 0, 10000, rfl, tc x (List.mem_of_getElem? ex), q⟩)))
      cases hn : isNum x 0 10000 with
      | false =>
        have : cellBad cs = some i := find_at hi (by rw [getD_of ex, hn]; rfl) fun j h => by rw [hj j h]; rfl
        rw [this] at R0
        refine bcT (val_raise [.int i] rfl ?_ ?_)
        · exact fun Q E q => q
        · exact ⟨O, OSub.refl O, qx _ R0⟩
      | true =>
        refine bcN ?_
        refine hN _ ⟨⟨_, _, rfl⟩, fun j h => ?_⟩
        by_cases e : j = i
        · subst e; rw [getD_of ex]; exact hn
        · exact hj j (by omega)
    rw [enum_len]
    rintro ρ ⟨⟨s4, s5, rfl⟩, hall⟩
    have hcb : cellBad cs = none := find_no fun j h => by rw [hall j h]; rfl
    rw [hcb] at R0
    dsimp only at R0
    refine st_if (!isNum inp 0 cs.length) ?_ ?_
    · exact val_not _ (val_tst _ (val_call [inp, .int 0, .int cs.length] _ (val_cons _ _ (fun Q E q => q) (val_cons _ _ (fun Q E q => q) (val_cons _ _ (val_len hc fun Q E q => q) val_nil))) (fun Q E q => ⟨inp, 0, cs.length, rfl, ti, q⟩)))
    cases hn : isNum inp 0 cs.length with
    | false =>
      rw [hn, if_pos rfl] at R0
      refine bcT (val_raise [inp] rfl ?_ ?_)
      · exact fun Q E q => q
      · exact ⟨O, OSub.refl O, qx _ R0⟩
    | true =>
      rw [hn, if_neg (by decide)] at R0
      refine bcN ?_
      dsimp only
      obtain ⟨n, rfl⟩ : ∃ n, inp = .int n := by
        unfold isNum at hn
        split at hn
        · exact ⟨_, rfl⟩
        · cases hn
      have hn0 : 0 ≤ n ∧ n ≤ cs.length := by simpa [isNum] using hn
      dsimp only at R0
      refine st_forJ (rngD 0 n.toNat) (fun i ρ => (∃ s4 s5, ρ = [.sh (.opq (.ref p)), .sh dc, .sh dr, .sh (.int n), s4, s5]) ∧ ∀ j, j < i → isZero (cs.getD j .non) = true) ?_ ⟨⟨_, _, rfl⟩, fun j h => by omega⟩ ?_ ?_
      · exact fun Q E q => ⟨by omega, by have : sizeLine < 2 ^ 62 := by decide
                                         omega, q⟩
      · rintro i d hd ρ ⟨⟨s4, s5, rfl⟩, hj⟩ N hN
        obtain ⟨hi, rfl⟩ := rng_at hd
        have hic : i < cs.length := by omega
        have ex : cs[i]? = some cs[i] := List.getElem?_eq_getElem hic
        refine tg_one [.sh (.opq (.ref p)), .sh dc, .sh dr, .sh (.int n), .sh (.int i), s5] rfl ?_
        have hx := hall i hic
        rw [getD_of ex] at hx
        obtain ⟨m, em⟩ : ∃ m, cs[i] = .int m := by
          unfold isNum at hx
          split at hx
          · rename_i e; exact ⟨_, e⟩
          · cases hx
        rw [em] at ex
        refine st_if1 (!decide (m = 0)) ?_ ?_
        · exact val_tstB _ (val_op (.int m) (.int 0) _ (val_ix hc (fun Q E q => q) (fun Q E q => q) (atI_nat ex)) (fun Q E q => q) (fun Q q => q))
        by_cases hm : m = 0
        · rw [decide_eq_true hm]
          refine bcN ?_
          refine hN _ ⟨⟨_, _, rfl⟩, fun j h => ?_⟩
          by_cases e : j = i
          · subst e; rw [getD_of ex]; simp [isZero, hm]
          · exact hj j (by omega)
        · rw [decide_eq_false hm]
          have : wideAt cs n.toNat = some i := find_at hi (by rw [getD_of ex]; simp [isZero, hm]) fun j h => by rw [hj j h]; rfl
          rw [this] at R0
          refine bcT (val_raise [.int i] rfl ?_ ?_)
          · exact fun Q E q => q
          · exact ⟨O, OSub.refl O, qx _ R0⟩
      rw [show (rngD 0 n.toNat).length = n.toNat by simp [rngD]]
      rintro ρ ⟨⟨s4, s5, rfl⟩, hzero⟩
      have hw : wideAt cs n.toNat = none := find_no fun j h => by rw [hzero j h]; rfl
      rw [hw] at R0
      dsimp only at R0
      refine st_if (decide ((10000 : Int) < (rs.length : Int))) ?_ ?_
      · exact val_tstB _ (val_op (.int rs.length) (.int 10000) _ (val_len hr fun Q E q => q) (fun Q E q => q) (fun Q q => q))
      by_cases h2 : 10000 < rs.length
      · rw [if_pos h2] at R0
        rw [decide_eq_true (by omega)]
        refine bcT (val_raise [.int 10000] rfl ?_ ?_)
        · exact fun Q E q => q
        · exact ⟨O, OSub.refl O, qx _ R0⟩
      rw [if_neg h2] at R0
      rw [decide_eq_false (by omega)]
      refine bcN ?_
      dsimp only
      refine val_len hc (fun Q E q => q) _ _ ?_
      refine spM.of ⟨cs.length, dr, rs, rfl, hr, lr, tr, fun hk => ?_, fun i hk => ?_⟩
      · rw [hk] at R0
        dsimp only
        refine st_fld p (.tup cs) [] ?_ ?_ ep (by decide) ?_
        · exact val_tupO hc fun Q E q => q
        · exact fun Q E q => q
        refine st_fld p (.tup rs) [("cells", .tup cs)] ?_ ?_ oset_same (Nat.lt_of_lt_of_le (show 1 < 2 by decide) (by decide)) ?_
        · exact val_tupO hr fun Q E q => q
        · exact fun Q E q => q
        rw [oset_oset]
        refine st_fld1 p (.int n) [("cells", .tup cs), ("rows", .tup rs)] ?_ ?_ oset_same (Nat.lt_of_lt_of_le (show 2 < 3 by decide) (by decide)) ?_
        · exact fun Q E q => q
        · exact fun Q E q => q
        rw [oset_oset]
        exact ⟨_, OSub.refl _, q R0⟩
      · rw [hk] at R0
        exact ⟨O, OSub.refl O, qx _ R0⟩
end
end LW
set_option Elab.async false
set_option linter.all false
set_option maxRecDepth 100000
set_option maxHeartbeats 4000000
set_option pp.maxSteps 400
namespace LW
open PySem PySem.Spec PyProof.Rows L2 EV PySem.XO PySem.W LamX
abbrev psR : List Str := ["self", "cells", "rows", "inputs"]
theorem GD_Reader_inputs : ∀ (K : PySem.W.Frag) (G : Hp) (v : V) (vs zs : List V) (ds es : List D), RpL K G vs ds → RpL K G zs es → vs.length = 2 → zs.length = (["inputs"] : List Str).length → ∃ ws, (v :: vs) ++ zs = v :: ws ∧ RpL K G ws (ds ++ es) := fun K G v vs zs ds es r1 r2 _ _ => ⟨vs ++ zs, rfl, r1.append r2⟩
theorem mkG_ini {AA : Str → Addr} {C : Addr} {O : Ow} {Q : QD} {E : QX} {dc dr inp : D} {cs rs : List D} (hc : Seq dc cs) (hr : Seq dr rs) (lc : cs.length ≤ sizeLine) (lr : rs.length < sizeLine) (tc : ∀ c ∈ cs, (tyD c).isSome = true) (ti : (tyD inp).isSome = true) (tr : ∀ r ∈ rs, Flat1 r)
    (q : rdX AA cs rs inp = none → Q (.ins C (rdF cs rs inp)) O) (e : ∀ x, rdX AA cs rs inp = some x → E x O) : mkG C (iniS AA C) [dc, dr, inp] O Q E := fun p np =>
  spM.of ⟨p, dc, dr, inp, cs, rs, rfl, oset_same, hc, hr, lc, lr, tc, ti, tr, fun h => ⟨rfl, _, _, oset_same, by rw [oset_oset, odel_oset np]; exact q h⟩, fun x h => ⟨O, OSub.new np, e x h⟩⟩
theorem cells_ok {cs : List D} (hc : ∀ c ∈ cs, isNum c 0 10000 = true) : cellBad cs = none := find_no fun j hj => by
  rw [getD_of (List.getElem?_eq_getElem hj), hc _ (List.getElem_mem hj)]; rfl
end LW
set_option Elab.async false
set_option linter.all false
set_option maxRecDepth 100000
set_option maxHeartbeats 4000000
set_option pp.maxSteps 400
namespace LW
open PySem PySem.Spec PyProof.Rows L2 EV PySem.XO PySem.W LamX
local macro_rules | `(tactic| walk_at "n") => `(tactic| refine st_norm (by simp only [List.set_cons_succ, List.set_cons_zero]; rfl) ?_)
abbrev s_step : Stmt := topS 43
abbrev N_step : List Str := ["_law_box_here", "_law_cells", "_law_words_here", "_law_many", "_law_c", "_law_d", "_law_j", "_law_kind"]
theorem sc_step : FnScope N_step ["_law_box_here", "_law_cells", "_law_words_here", "_law_many"] (defScope s_step) := ⟨rfl, rfl, rfl, by decide +kernel, rfl, by decide +kernel, by decide +kernel⟩
def stpL (a b j : Int) (w0 w1 : Str) : List D := [.tup [.str "read", .int a], .tup [.str "zero", .int a], .tup [.str "top", .int a], .tup [.str "up", .int a], .tup [.str "same", .int a, .int b, .int j], .tup [.str "less", .int a, .int b, .int j],
  .tup [.str "copy", .int a, .int b], .tup [.str "has", .str w1, .int a, .int j], .tup [.str "link", .str w0, .int a, .int b, .int j], .tup [.str "jump", .int j], .tup [.str "end"], .tup [.str "refuse"]]
def Stp (c m : Int) (w0 w1 : Str) (d : D) : Prop := ∃ a b j : Int, 0 ≤ a ∧ a < c ∧ 0 ≤ b ∧ b < c ∧ 0 ≤ j ∧ j < m ∧ d ∈ stpL a b j w0 w1
def kindL : List Str := ["read", "read", "read", "same", "same", "less", "has", "link", "zero", "top", "up", "up", "copy", "jump", "end", "refuse"]
def kA : List Str := ["read", "zero", "top", "up"]
def kB : List Str := ["same", "less"]
theorem kind_last : ∀ z ∈ kindL, (kA.any fun y => decide (z = y)) = false → (kB.any fun y => decide (z = y)) = false → decide (z = "copy") = false → decide (z = "has") = false → decide (z = "link") = false → decide (z = "jump") = false → z = "end" ∨ z = "refuse" := by decide +kernel
def stpS : DSp := fun ds O Q _ => ∃ (c m : Int) (w0 w1 : Str) (ws : List Str), ds = [.int c, .lst ((w0 :: w1 :: ws).map D.str), .int m] ∧ 0 < c ∧ c < 1000000 ∧ 0 < m ∧ m < 1000000 ∧ ∀ d, Stp c m w0 w1 d → Q d O
abbrev s_plan : Stmt := topS 44
abbrev N_plan : List Str := ["_law_box_here", "_law_words_here", "_law_cap", "_law_inputs", "_law_cells", "_law_many", "_law_rows", "_law_k"]
theorem sc_plan : FnScope N_plan ["_law_box_here", "_law_words_here", "_law_cap"] (defScope s_plan) := ⟨rfl, rfl, rfl, by decide +kernel, rfl, by decide +kernel, by decide +kernel⟩
def cutL : List D := [.int 0, .int 2, .int 3, .int 1]
structure Plan (cap : Nat) (w0 w1 : Str) (cs rs : List D) (i : Nat) : Prop where
  i1 : i ≤ 1
  hcs : ∃ xs : List D, cs = List.replicate i (.int 0) ++ xs ∧ 1 ≤ xs.length ∧ xs.length ≤ 2 ∧ ∀ x ∈ xs, x ∈ cutL
  hrs : ∃ (ys : List D) (z : D), rs = ys ++ [z] ∧ ys.length < cap ∧ (∀ y ∈ ys, Stp cs.length rs.length w0 w1 y) ∧ (z = .tup [.str "end"] ∨ z = .tup [.str "refuse"] ∨ ∃ j : Int, 0 ≤ j ∧ j < rs.length ∧ z = .tup [.str "jump", .int j])
def planS : DSp := fun ds O Q _ => ∃ (cap : Nat) (w0 w1 : Str) (ws : List Str), ds = [.lst ((w0 :: w1 :: ws).map D.str), .int cap] ∧ 1 ≤ cap ∧ cap ≤ 1000 ∧ ∀ cs rs i, Plan cap w0 w1 cs rs i → Q (.tup [.lst cs, .lst rs, .int (i : Nat)]) O
abbrev s_made : Stmt := topS 45
abbrev N_made : List Str := ["_law_plan_here"]
theorem sc_made : FnScope N_made ["_law_plan_here"] (defScope s_made) := ⟨rfl, rfl, rfl, by decide +kernel, rfl, by decide +kernel, by decide +kernel⟩
def madeS (AA : Str → Addr) (C : Addr) : DSp := fun ds O Q _ => ∃ (cs rs : List D) (inp : D), ds = [.tup [.lst cs, .lst rs, inp]] ∧ cs.length ≤ sizeLine ∧ rs.length < sizeLine ∧ (∀ c ∈ cs, (tyD c).isSome = true) ∧ (tyD inp).isSome = true ∧ (∀ r ∈ rs, Flat1 r) ∧ rdX AA cs rs inp = none ∧ Q (.ins C (rdF cs rs inp)) O
section
variable {P : Program} {w : World} {K : PySem.W.Frag} {mg : Str → Option Value} {base : Heap}
theorem ok_step {f fP fO : Addr} {fd fdP fdO : FuncData} (F : Fun K "_law_step" "_law_step" s_step f fd) (G_pull : FnOk P w K mg base CX0 1 fP fdP ["_law_box_here", "_law_many"] (spB K pullS)) (T_pull : Gf K mg "_law_pull" fP fdP ["_law_box_here", "_law_many"])
    (G_of : FnOk P w K mg base CX0 2 fO fdO ["_law_box_here", "_law_some"] (spB K ofS)) (T_of : Gf K mg "_law_of" fO fdO ["_law_box_here", "_law_some"]) :
    FnOk P w K mg base CX0 3 f fd ["_law_box_here", "_law_cells", "_law_words_here", "_law_many"] (spB K stpS) := by
  refine fn_box F sc_step (fun ds O Q E h => ?_) (fun cdv A outer s H E b l T hr =>
    (d_scons (d_par3 (i := 4) (j := 5) (l := 6) rfl sc_step.nd rfl rfl rfl (by decide) (by decide) (by decide) rfl rfl rfl (d_cons (d_callX G_pull rfl (hr.mono (by decide)) rfl T_pull.m T_pull.k T_pull.b (fun _ => pass0A) (d_cons (d_var (i := 0) rfl (.inl rfl) (by decide) (by decide)) (d_cons (d_var (i := 1) rfl (.inl rfl) (by decide) (by decide)) d_nil rfl) rfl) (by decide) rfl rfl) (d_cons (d_callX G_pull rfl (hr.mono (by decide)) rfl T_pull.m T_pull.k T_pull.b (fun _ => pass0A) (d_cons (d_var (i := 0) rfl (.inl rfl) (by decide) (by decide)) (d_cons (d_var (i := 1) rfl (.inl rfl) (by decide) (by decide)) d_nil rfl) rfl) (by decide) rfl rfl) (d_cons (d_callX G_pull rfl (hr.mono (by decide)) rfl T_pull.m T_pull.k T_pull.b (fun _ => pass0A) (d_cons (d_var (i := 0) rfl (.inl rfl) (by decide) (by decide)) (d_cons (d_var (i := 3) rfl (.inl rfl) (by decide) (by decide)) d_nil rfl) rfl) (by decide) rfl rfl) d_nil rfl) rfl) rfl) rfl rfl)
      (d_scons (d_set (i := 7) sc_step.nd rfl (.inl rfl) (d_callX G_of rfl (hr.mono (by decide)) rfl T_of.m T_of.k T_of.b (fun _ => pass0A) (d_cons (d_var (i := 0) rfl (.inl rfl) (by decide) (by decide)) (d_cons (d_lst (d_cons d_str (d_cons d_str (d_cons d_str (d_cons d_str (d_cons d_str (d_cons d_str (d_cons d_str (d_cons d_str (d_cons d_str (d_cons d_str (d_cons d_str (d_cons d_str (d_cons d_str (d_cons d_str (d_cons d_str (d_cons d_str d_nil rfl) rfl) rfl) rfl) rfl) rfl) rfl) rfl) rfl) rfl) rfl) rfl) rfl) rfl) rfl) rfl)) d_nil rfl) rfl) (by decide) rfl rfl) rfl (.inl rfl))
      (d_scons (d_ifS (d_tcmp od_inS (d_var (i := 7) rfl (.inl rfl) (by decide) (by decide)) (d_tup (d_cons d_str (d_cons d_str (d_cons d_str (d_cons d_str d_nil rfl) rfl) rfl) rfl)) rfl) (d_sone (d_ret (d_tup (d_cons (d_var (i := 7) rfl (.inl rfl) (by decide) (by decide)) (d_cons (d_var (i := 4) rfl (.inl rfl) (by decide) (by decide)) d_nil rfl) rfl)))) d_snil)
      (d_scons (d_ifS (d_tcmp od_inS (d_var (i := 7) rfl (.inl rfl) (by decide) (by decide)) (d_tup (d_cons d_str (d_cons d_str d_nil rfl) rfl)) rfl) (d_sone (d_ret (d_tup (d_cons (d_var (i := 7) rfl (.inl rfl) (by decide) (by decide)) (d_cons (d_var (i := 4) rfl (.inl rfl) (by decide) (by decide)) (d_cons (d_var (i := 5) rfl (.inl rfl) (by decide) (by decide)) (d_cons (d_var (i := 6) rfl (.inl rfl) (by decide) (by decide)) d_nil rfl) rfl) rfl) rfl)))) d_snil)
      (d_scons (d_ifS (d_tcmp (od_eq hr.units) (d_var (i := 7) rfl (.inl rfl) (by decide) (by decide)) d_str (nomark _)) (d_sone (d_ret (d_tup (d_cons (d_var (i := 7) rfl (.inl rfl) (by decide) (by decide)) (d_cons (d_var (i := 4) rfl (.inl rfl) (by decide) (by decide)) (d_cons (d_var (i := 5) rfl (.inl rfl) (by decide) (by decide)) d_nil rfl) rfl) rfl)))) d_snil)
      (d_scons (d_ifS (d_tcmp (od_eq hr.units) (d_var (i := 7) rfl (.inl rfl) (by decide) (by decide)) d_str (nomark _)) (d_sone (d_ret (d_tup (d_cons (d_var (i := 7) rfl (.inl rfl) (by decide) (by decide)) (d_cons (d_ix (d_var (i := 2) rfl (.inl rfl) (by decide) (by decide)) d_int (fun _ _ => rfl)) (d_cons (d_var (i := 4) rfl (.inl rfl) (by decide) (by decide)) (d_cons (d_var (i := 6) rfl (.inl rfl) (by decide) (by decide)) d_nil rfl) rfl) rfl) rfl)))) d_snil)
      (d_scons (d_ifS (d_tcmp (od_eq hr.units) (d_var (i := 7) rfl (.inl rfl) (by decide) (by decide)) d_str (nomark _)) (d_sone (d_ret (d_tup (d_cons (d_var (i := 7) rfl (.inl rfl) (by decide) (by decide)) (d_cons (d_ix (d_var (i := 2) rfl (.inl rfl) (by decide) (by decide)) d_int (fun _ _ => rfl)) (d_cons (d_var (i := 4) rfl (.inl rfl) (by decide) (by decide)) (d_cons (d_var (i := 5) rfl (.inl rfl) (by decide) (by decide)) (d_cons (d_var (i := 6) rfl (.inl rfl) (by decide) (by decide)) d_nil rfl) rfl) rfl) rfl) rfl)))) d_snil)
      (d_sone (d_ret (d_if (d_tcmp (od_eq hr.units) (d_var (i := 7) rfl (.inl rfl) (by decide) (by decide)) d_str (nomark _)) (d_tup (d_cons (d_var (i := 7) rfl (.inl rfl) (by decide) (by decide)) (d_cons (d_var (i := 6) rfl (.inl rfl) (by decide) (by decide)) d_nil rfl) rfl)) (d_tup (d_cons (d_var (i := 7) rfl (.inl rfl) (by decide) (by decide)) d_nil rfl))))))))))))) (fun b ds O Q E h => ?_) (fun ds O Q E h => h)
  · obtain ⟨c, m, w0, w1, ws, rfl, _⟩ := h; rfl
  · obtain ⟨c, m, w0, w1, ws, rfl, c0, c1, m0, m1, q⟩ := h
    rw [show startD N_step [.opq (.ref b), .int c, .lst ((w0 :: w1 :: ws).map D.str), .int m] = [.sh (.opq (.ref b)), .sh (.int c), .sh (.lst ((w0 :: w1 :: ws).map D.str)), .sh (.int m), .un, .un, .un, .un] from rfl]
    refine st_par3N (fun u v z => ∃ x y j : Int, u = .int x ∧ v = .int y ∧ z = .int j ∧ 0 ≤ x ∧ x < c ∧ 0 ≤ y ∧ y < c ∧ 0 ≤ j ∧ j < m) (fun Q E q => ?_) ?_
    · refine val_pull c (fun Q E q => q) (fun Q E q => q) c0 (by omega) _ _ fun x x0 x1 => ?_
      refine val_pull c (fun Q E q => q) (fun Q E q => q) c0 (by omega) _ _ fun y y0 y1 => ?_
      exact val_pull m (fun Q E q => q) (fun Q E q => q) m0 (by omega) _ _ fun j j0 j1 => q _ _ _ ⟨x, y, j, rfl, rfl, rfl, x0, x1, y0, y1, j0, j1⟩
    · rintro _ _ _ ⟨x, y, j, rfl, rfl, rfl, x0, x1, y0, y1, j0, j1⟩
      walk_at "n"
      have fin : ∀ d, d ∈ stpL x y j w0 w1 → Q d O := fun d hd => q d ⟨x, y, j, x0, x1, y0, y1, j0, j1, hd⟩
      refine st_setN (fun d => ∃ z : Str, d = .str z ∧ z ∈ kindL) (fun Q E q => ?_) ?_
      · refine val_of (.lst (kindL.map fun x => .str x)) (fun Q E q => q) (fun Q E q => ⟨le_sz rfl, q⟩) (by decide) (by decide) _ _ fun d hd => ?_
        obtain ⟨z, hz, rfl⟩ := List.mem_map.mp hd
        exact q _ ⟨z, rfl, hz⟩
      · rintro _ ⟨z, rfl, hz⟩
        walk_at "n"
        have hv : ∀ Q E, Q (.str z) O → dVar 7 [.sh (.opq (.ref b)), .sh (.int c), .sh (.lst ((w0 :: w1 :: ws).map D.str)), .sh (.int m), .sh (.int x), .sh (.int y), .sh (.int j), .sh (.str z)] O Q E := fun Q E q => q
        have ht : ∀ {ss : List Str} {mA : DA}, ss.length ≤ 10 → (∀ Q E, Q (ss.map fun x => .str x) O → mA [.sh (.opq (.ref b)), .sh (.int c), .sh (.lst ((w0 :: w1 :: ws).map D.str)), .sh (.int m), .sh (.int x), .sh (.int y), .sh (.int j), .sh (.str z)] O Q E) → ∀ Q E, Q (.tup (ss.map fun x => .str x)) O → dTup mA [.sh (.opq (.ref b)), .sh (.int c), .sh (.lst ((w0 :: w1 :: ws).map D.str)), .sh (.int m), .sh (.int x), .sh (.int y), .sh (.int j), .sh (.str z)] O Q E :=
          fun hl h Q E q => val_tup _ h (by rw [List.length_map]; exact szk (by omega)) Q E q
        refine st_if (kA.any fun y => decide (z = y)) (val_tstB _ (val_inB z kA _ hv (ht (by decide) fun Q E q => q) rfl)) ?_
        cases e1 : kA.any fun y => decide (z = y) with
        | true =>
          refine bcT (val_ret (.tup [.str z, .int x]) (val_tup _ (fun Q E q => q) (le_sz rfl)) (fin _ ?_))
          have hm := any_mem e1
          simp only [kA, List.mem_cons, List.not_mem_nil, or_false] at hm
          rcases hm with rfl | rfl | rfl | rfl <;> simp [stpL]
        | false =>
        refine bcN ?_
        dsimp only
        refine st_if (kB.any fun y => decide (z = y)) (val_tstB _ (val_inB z kB _ hv (ht (by decide) fun Q E q => q) rfl)) ?_
        cases e2 : kB.any fun y => decide (z = y) with
        | true =>
          refine bcT (val_ret (.tup [.str z, .int x, .int y, .int j]) (val_tup _ (fun Q E q => q) (le_sz rfl)) (fin _ ?_))
          have hm := any_mem e2
          simp only [kB, List.mem_cons, List.not_mem_nil, or_false] at hm
          rcases hm with rfl | rfl <;> simp [stpL]
        | false =>
        refine bcN ?_
        dsimp only
        refine st_if (decide (z = "copy")) (val_tstB _ (val_eqB z "copy" _ hv (fun Q E q => q) rfl)) ?_
        cases e3 : decide (z = "copy") with
        | true =>
          refine bcT (val_ret (.tup [.str z, .int x, .int y]) (val_tup _ (fun Q E q => q) (le_sz rfl)) (fin _ ?_))
          rw [of_decide_eq_true e3]; simp [stpL]
        | false =>
        refine bcN ?_
        dsimp only
        refine st_if (decide (z = "has")) (val_tstB _ (val_eqB z "has" _ hv (fun Q E q => q) rfl)) ?_
        cases e4 : decide (z = "has") with
        | true =>
          refine bcT (val_ret (.tup [.str z, .str w1, .int x, .int j]) (val_tup _ (val_cons _ _ hv (val_cons _ _ (val_ix (.inl rfl) (fun Q E q => q) (fun Q E q => q) (show atI _ ((1 : Nat) : Int) = _ from atI_nat rfl)) (fun Q E q => q))) (le_sz rfl)) (fin _ ?_))
          rw [of_decide_eq_true e4]; simp [stpL]
        | false =>
        refine bcN ?_
        dsimp only
        refine st_if (decide (z = "link")) (val_tstB _ (val_eqB z "link" _ hv (fun Q E q => q) rfl)) ?_
        cases e5 : decide (z = "link") with
        | true =>
          refine bcT (val_ret (.tup [.str z, .str w0, .int x, .int y, .int j]) (val_tup _ (val_cons _ _ hv (val_cons _ _ (val_ix (.inl rfl) (fun Q E q => q) (fun Q E q => q) (show atI _ ((0 : Nat) : Int) = _ from atI_nat rfl)) (fun Q E q => q))) (le_sz rfl)) (fin _ ?_))
          rw [of_decide_eq_true e5]; simp [stpL]
        | false =>
        refine bcN ?_
        dsimp only
        refine val_if (decide (z = "jump")) (val_tstB _ (val_eqB z "jump" _ hv (fun Q E q => q) rfl)) ?_
        cases e6 : decide (z = "jump") with
        | true =>
          refine bcT ⟨le_sz rfl, fin _ ?_⟩
          rw [of_decide_eq_true e6]; simp [stpL]
        | false =>
        refine bcF ⟨le_sz rfl, fin _ ?_⟩
        rcases kind_last z hz e1 e2 e3 e4 e5 e6 with rfl | rfl <;> simp [stpL]
theorem ok_plan {f fP fO fS : Addr} {fd fdP fdO fdS : FuncData} (F : Fun K "_law_plan" "_law_plan" s_plan f fd) (G_pull : FnOk P w K mg base CX0 1 fP fdP ["_law_box_here", "_law_many"] (spB K pullS)) (T_pull : Gf K mg "_law_pull" fP fdP ["_law_box_here", "_law_many"])
    (G_of : FnOk P w K mg base CX0 2 fO fdO ["_law_box_here", "_law_some"] (spB K ofS)) (T_of : Gf K mg "_law_of" fO fdO ["_law_box_here", "_law_some"])
    (G_step : FnOk P w K mg base CX0 3 fS fdS ["_law_box_here", "_law_cells", "_law_words_here", "_law_many"] (spB K stpS)) (T_step : Gf K mg "_law_step" fS fdS ["_law_box_here", "_law_cells", "_law_words_here", "_law_many"]) (m_len : mg "len" = none) (m_range : mg "range" = none) :
    FnOk P w K mg base CX0 4 f fd ["_law_box_here", "_law_words_here", "_law_cap"] (spB K planS) := by
  refine fn_box F sc_plan (fun ds O Q E h => ?_) (fun cdv A outer s H E b l T hr =>
    (d_scons (d_set (i := 3) sc_plan.nd rfl (.inl rfl) (d_callX G_pull rfl (hr.mono (by decide)) rfl T_pull.m T_pull.k T_pull.b (fun _ => pass0A) (d_cons (d_var (i := 0) rfl (.inr (.inl rfl)) (by decide) (by decide)) (d_cons d_int d_nil rfl) rfl) (by decide) rfl rfl) rfl (.inl rfl))
      (d_scons (d_set (i := 4) sc_plan.nd rfl (.inr rfl) (d_op od_add (d_op od_mul (d_lst (d_cons d_int d_nil rfl)) (d_var (i := 3) rfl (.inl rfl) (by decide) (by decide))) (d_lc rfl sc_plan.nd (d_rng1 rfl m_range (d_cons (d_op od_add d_int (d_callX G_pull rfl (hr.mono (by decide)) rfl T_pull.m T_pull.k T_pull.b (fun _ => pass0A) (d_cons (d_var (i := 0) rfl (.inr (.inl rfl)) (by decide) (by decide)) (d_cons d_int d_nil rfl) rfl) (by decide) rfl rfl)) d_nil rfl) rfl) (blkOk_by (own := [("_law_k", 7)]) (N := N_plan) (sc := defScope s_plan) (by decide +kernel)) (fun _ _ _ _ _ => (dg_name (i := 7) sc_plan.nd rfl (.inl rfl) (.inr rfl))) (fun _ _ _ _ _ => d_ifs0) (fun _ _ _ _ _ => (d_callX G_of rfl (hr.mono (by decide)) rfl T_of.m T_of.k T_of.b (fun _ => pass0A) (d_cons (d_var (i := 0) rfl (.inr (.inl rfl)) (by decide) (by decide)) (d_cons (d_lst (d_cons d_int (d_cons d_int (d_cons d_int (d_cons d_int d_nil rfl) rfl) rfl) rfl)) d_nil rfl) rfl) (by decide) rfl rfl)) (by decide +kernel) (fun _ => rfl))) rfl (.inl rfl))
      (d_scons (d_set (i := 5) sc_plan.nd rfl (.inr rfl) (d_op od_add d_int (d_callX G_pull rfl (hr.mono (by decide)) rfl T_pull.m T_pull.k T_pull.b (fun _ => pass0A) (d_cons (d_var (i := 0) rfl (.inr (.inl rfl)) (by decide) (by decide)) (d_cons (d_var (i := 2) rfl (.inl rfl) (by decide) (by decide)) d_nil rfl) rfl) (by decide) rfl rfl)) rfl (.inl rfl))
      (d_scons (d_setLc (i := 6) rfl sc_plan.nd rfl rfl (sw_true rfl rfl rfl (by decide +kernel)) (d_rng1 rfl m_range (d_cons (d_op od_sub (d_var (i := 5) rfl (.inr (.inl rfl)) (by decide) (by decide)) d_int) d_nil rfl) rfl) (blkOk_by (own := [("_law_k", 7)]) (N := N_plan) (sc := defScope s_plan) (by decide +kernel)) (fun _ _ _ _ _ => (dg_name (i := 7) sc_plan.nd rfl (.inl rfl) (.inr rfl))) (fun _ _ _ _ _ => d_ifs0) (fun _ _ _ _ _ => (d_callX G_step rfl (hr.mono (by decide)) rfl T_step.m T_step.k T_step.b (fun _ => pass0A) (d_cons (d_var (i := 0) rfl (.inr (.inl rfl)) (by decide) (by decide)) (d_cons (d_callB cd_len rfl m_len boot_len (d_cons (d_var (i := 4) rfl (.inr (.inl rfl)) (by decide) (by decide)) d_nil rfl) (by decide) (by decide) rfl rfl) (d_cons (d_var (i := 1) rfl (.inr (.inl rfl)) (by decide) (by decide)) (d_cons (d_var (i := 5) rfl (.inr (.inl rfl)) (by decide) (by decide)) d_nil rfl) rfl) rfl) rfl) (by decide) rfl rfl)) (by decide +kernel) (fun _ => rfl))
      (d_sone (d_ret (d_tup (d_cons (d_var (i := 4) rfl (.inr (.inl rfl)) (by decide) (by decide)) (d_cons (d_op od_add (d_var (i := 6) rfl (.inl rfl) (by decide) (by decide)) (d_lst (d_cons (d_callX G_of rfl (hr.mono (by decide)) rfl T_of.m T_of.k T_of.b (fun _ => pass0A) (d_cons (d_var (i := 0) rfl (.inr (.inl rfl)) (by decide) (by decide)) (d_cons (d_lst (d_cons (d_tup (d_cons d_str d_nil rfl)) (d_cons (d_tup (d_cons d_str d_nil rfl)) (d_cons (d_tup (d_cons d_str (d_cons (d_callX G_pull rfl (hr.mono (by decide)) rfl T_pull.m T_pull.k T_pull.b (fun _ => pass0A) (d_cons (d_var (i := 0) rfl (.inr (.inl rfl)) (by decide) (by decide)) (d_cons (d_var (i := 5) rfl (.inr (.inl rfl)) (by decide) (by decide)) d_nil rfl) rfl) (by decide) rfl rfl) d_nil rfl) rfl)) (d_cons (d_tup (d_cons d_str d_nil rfl)) d_nil rfl) rfl) rfl) rfl)) d_nil rfl) rfl) (by decide) rfl rfl) d_nil rfl))) (d_cons (d_var (i := 3) rfl (.inl rfl) (by decide) (by decide)) d_nil rfl) rfl) rfl))))))))) (fun b ds O Q E h => ?_) (fun ds O Q E h => h)
  · obtain ⟨cap, w0, w1, ws, rfl, _⟩ := h; rfl
  · obtain ⟨cap, w0, w1, ws, rfl, cap1, cap2, q⟩ := h
    rw [show startD N_plan [.opq (.ref b), .lst ((w0 :: w1 :: ws).map D.str), .int cap] = [.sh (.opq (.ref b)), .sh (.lst ((w0 :: w1 :: ws).map D.str)), .sh (.int cap), .un, .un, .un, .un, .un] from rfl]
    refine st_setN (fun d => ∃ i : Nat, i ≤ 1 ∧ d = .int i) (fun Q E q => ?_) ?_
    · exact val_pull 2 (fun Q E q => q) (fun Q E q => q) (by decide) (by decide) _ _ fun k k0 k1 => q _ ⟨k.toNat, by omega, by rw [show ((k.toNat : Nat) : Int) = k by omega]⟩
    rintro _ ⟨i, hi, rfl⟩
    walk_at "n"
    refine st_setN (fun d => ∃ xs : List D, d = .lst (List.replicate i (.int 0) ++ xs) ∧ 1 ≤ xs.length ∧ xs.length ≤ 2 ∧ ∀ x ∈ xs, x ∈ cutL) (fun Q E q => ?_) ?_
    · refine val_rep (.int 0) i (fun Q E q => ⟨le_sz rfl, q⟩) (fun Q E q => q) (by omega) _ _ ?_
      refine val_pull 2 (fun Q E q => q) (fun Q E q => q) (by decide) (by decide) _ _ fun k k0 k1 => ?_
      refine ⟨by omega, by omega, ?_⟩
      refine lcW_each (I := tt1) trivial (fun _ y => y ∈ cutL) (fun d hd Qy hq => ?_) ?_ fun ys hE => ?_
      · exact val_of (.lst cutL) (fun Q E q => q) (fun Q E q => ⟨le_sz rfl, q⟩) (by decide) (by decide) _ _ fun y hy => hq y hy
      · simp only [rngD, List.length_map, List.length_range, List.length_nil]; exact szk (by omega)
      · have hl := hE.length
        simp only [rngD, List.length_map, List.length_range] at hl
        refine ⟨?_, q _ ⟨ys, rfl, by omega, by omega, each_mem hE⟩⟩
        rw [List.length_replicate]; exact szk (by simp only [List.nil_append]; omega)
    rintro _ ⟨xs, rfl, hx1, hx2, hx⟩
    walk_at "n"
    refine st_setN (fun d => ∃ m : Nat, 1 ≤ m ∧ m ≤ cap ∧ d = .int m) (fun Q E q => ?_) ?_
    · refine val_pull cap (fun Q E q => q) (fun Q E q => q) (by omega) (by omega) _ _ fun k k0 k1 => ?_
      exact q _ ⟨(1 + k).toNat, by omega, by omega, by rw [show (((1 + k).toNat : Nat) : Int) = 1 + k by omega]⟩
    rintro _ ⟨m, hm1, hm2, rfl⟩
    walk_at "n"
    refine st_setN (fun d => ∃ ys : List D, d = .lst ys ∧ ys.length = m - 1 ∧ ∀ y ∈ ys, Stp (List.replicate i (D.int 0) ++ xs).length m w0 w1 y) (fun Q E q => ?_) ?_
    · refine val_rng (m - 1) (by omega) (fun Q E q => ?_) _ _ ?_
      · rw [show ((m - 1 : Nat) : Int) = (m : Int) - 1 by omega] at q; exact ⟨trivial, q⟩
      refine lcW_each (I := tt1) trivial (fun _ y => Stp (List.replicate i (D.int 0) ++ xs).length m w0 w1 y) (fun d hd Qy hq => ?_) ?_ fun ys hE => ?_
      · refine ⟨rfl, spM.of ⟨_, _, w0, w1, ws, rfl, ?_, ?_, ?_, ?_, hq⟩⟩ <;> first | omega | (simp only [List.length_append, List.length_replicate]; omega)
      · simp only [rngD, List.length_map, List.length_range, List.length_nil]; exact szk (by omega)
      · have hl := hE.length
        simp only [rngD, List.length_map, List.length_range] at hl
        exact q _ ⟨ys, rfl, hl, each_P hE⟩
    rintro _ ⟨ys, rfl, hyl, hys⟩
    walk_at "n"
    refine val_retX ?_
    refine vN_tup3 (.lst (List.replicate i (.int 0) ++ xs)) (.int i) (P := fun d => ∃ z, d = .lst (ys ++ [z]) ∧ (z = .tup [.str "end"] ∨ z = .tup [.str "refuse"] ∨ ∃ j : Int, 0 ≤ j ∧ j < m ∧ z = .tup [.str "jump", .int j])) ?_ ?_ ?_ ?_
    · exact fun Q E q => q
    · intro Q E q
      refine vN_app1 ys (P := fun z => z = .tup [.str "end"] ∨ z = .tup [.str "refuse"] ∨ ∃ j : Int, 0 ≤ j ∧ j < m ∧ z = .tup [.str "jump", .int j]) ?_ ?_ ?_ _ _ ?_
      · exact fun Q E q => q
      · intro Q E q
        refine val_ofN (P := fun d => ∃ j : Int, 0 ≤ j ∧ j < m ∧ d = .lst [.tup [.str "end"], .tup [.str "end"], .tup [.str "jump", .int j], .tup [.str "refuse"]]) ?_ ?_ ?_ _ _ ?_
        · exact fun Q E q => q
        · intro Q E q
          refine ⟨le_sz rfl, le_sz rfl, ?_⟩
          refine val_pull m ?_ ?_ (by omega) (by omega) _ _ ?_
          · exact fun Q E q => q
          · exact fun Q E q => q
          · exact fun j j0 j1 => ⟨le_sz rfl, le_sz rfl, le_sz rfl, q _ ⟨j, j0, j1, rfl⟩⟩
        · rintro _ ⟨j, _, _, rfl⟩
          exact ⟨Nat.lt_of_lt_of_le (show 0 < 4 by decide) (Nat.le_refl _), show 4 < 1000000 by decide⟩
        · rintro _ ⟨j, j0, j1, rfl⟩ z hz
          refine q z ?_
          simp only [itemsL, List.mem_cons, List.not_mem_nil, or_false] at hz
          rcases hz with rfl | rfl | rfl | rfl
          · exact .inl rfl
          · exact .inl rfl
          · exact .inr (.inr ⟨j, j0, j1, rfl⟩)
          · exact .inr (.inl rfl)
      · exact szk (by omega)
      · exact fun z hz => q _ ⟨z, rfl, hz⟩
    · exact fun Q E q => q
    · rintro _ ⟨z, rfl, hz⟩
      have el : (ys ++ [z]).length = m := by simp; omega
      exact q _ _ i ⟨hi, ⟨xs, rfl, hx1, hx2, hx⟩, ys, z, rfl, by omega, by rw [el]; exact hys, by rw [el]; exact hz⟩
theorem ok_made {f fR C : Addr} {fd fdR : FuncData} {AA : Str → Addr} (F : Fun K "_law_made" "_law_made" s_made f fd)
    (MK_Reader : Mk K C fR) (G_Reader_init : FnOk P w K mg base (L2.CX P w) 4 fR fdR psR (spD K (iniS AA C))) (M_Reader : mg "Reader" = some (.ref C))
    {gA : List Value → List Value → List Value} (KB_Reader_inputs : KBn K fdR psR 3 ["inputs"] gA (fun vs zs => vs ++ zs)) (m_list : mg "list" = none) : FnOk P w K mg base CX0 6 f fd ["_law_plan_here"] (spD K (madeS AA C)) := by
  refine fn_pure F sc_made (fun ds O Q E h => ?_) (fun cdv A outer s H E hr =>
    (d_sone (d_ret (d_makeG (fun _ => rfl) MK_Reader G_Reader_init (hr.mono (by decide)) rfl M_Reader KB_Reader_inputs GD_Reader_inputs passF (d_cons (d_callTy cd_list rfl m_list boot_list (d_cons (d_ix (d_var (i := 0) rfl (.inl rfl) (by decide) (by decide)) d_int (fun _ _ => rfl)) d_nil rfl) (by decide) (by decide) rfl rfl) (d_cons (d_callTy cd_list rfl m_list boot_list (d_cons (d_ix (d_var (i := 0) rfl (.inl rfl) (by decide) (by decide)) d_int (fun _ _ => rfl)) d_nil rfl) (by decide) (by decide) rfl rfl) d_nil rfl) rfl) (d_kcons (d_ix (d_var (i := 0) rfl (.inl rfl) (by decide) (by decide)) d_int (fun _ _ => rfl)) d_knil) rfl rfl (by decide) rfl rfl)))) (fun ds O Q E h => ?_) (fun ds O Q E h => h)
  · obtain ⟨cs, rs, inp, rfl, _⟩ := h; rfl
  · obtain ⟨cs, rs, inp, rfl, lc, lr, tc, ti, tr, hx, q⟩ := h
    rw [show startD N_made [.tup [.lst cs, .lst rs, inp]] = [.sh (.tup [.lst cs, .lst rs, inp])] from rfl]
    refine val_retX ?_
    refine val_mkK [.lst cs, .lst rs] ?_ ?_
    · exact fun Q E q => q
    · refine ⟨rfl, rfl, mkG_ini (.inl rfl) (.inl rfl) lc lr tc ti tr (fun _ => q) fun x e => ?_⟩
      rw [hx] at e; cases e
end
end LW
set_option Elab.async false
set_option linter.all false
set_option maxRecDepth 100000
set_option maxHeartbeats 4000000
set_option pp.maxSteps 400
namespace LW
open PySem PySem.Spec PyProof.Rows L2 EV PySem.XO PySem.W LamX
theorem isStp_of {z fm : Str} {xs : List D} {c r : Int} (e : formsT.lookup z = some (.str fm)) : isStp (.tup (.str z :: xs)) c r = (decide (xs.length = fm.length) && (List.zip (co fm) xs).all fun p => kindOk p.1 p.2 c r) := by
  simp only [isStp, e]
theorem kc {a c r : Int} (h0 : 0 ≤ a) (h1 : a < c) : kindOk 99 (.int a) c r = true := by
  simp [kindOk, isNum]; omega
theorem kj {a c r : Int} (h0 : 0 ≤ a) (h1 : a < r) : kindOk 106 (.int a) c r = true := by
  simp [kindOk, isNum]; omega
theorem kt {y : Str} {c r : Int} (h : isNm (.str y) = true) : kindOk 116 (.str y) c r = true := by
  simp [kindOk, h]
theorem Stp.mono {c c' m m' : Int} {w0 w1 : Str} {d : D} (h : Stp c m w0 w1 d) (hc : c ≤ c') (hm : m ≤ m') : Stp c' m' w0 w1 d := by
  obtain ⟨a, b, j, a0, a1, b0, b1, j0, j1, h⟩ := h
  exact ⟨a, b, j, a0, by omega, b0, by omega, j0, by omega, h⟩
theorem fc1 : co ("c" : Str) = [99] := by decide +kernel
theorem fcc : co ("cc" : Str) = [99, 99] := by decide +kernel
theorem fccj : co ("ccj" : Str) = [99, 99, 106] := by decide +kernel
theorem ftcj : co ("tcj" : Str) = [116, 99, 106] := by decide +kernel
theorem ftccj : co ("tccj" : Str) = [116, 99, 99, 106] := by decide +kernel
theorem fj : co ("j" : Str) = [106] := by decide +kernel
theorem f0 : co ("" : Str) = [] := by decide +kernel
theorem stp_ok {c m : Int} {w0 w1 : Str} {d : D} (n0 : isNm (.str w0) = true) (n1 : isNm (.str w1) = true) (h : Stp c m w0 w1 d) : isStp d c m = true := by
  obtain ⟨a, b, j, a0, a1, b0, b1, j0, j1, h⟩ := h
  simp only [stpL, List.mem_cons, List.not_mem_nil, or_false] at h
  rcases h with rfl | rfl | rfl | rfl | rfl | rfl | rfl | rfl | rfl | rfl | rfl | rfl
  · rw [isStp_of (fm := "c") rfl, fc1]; simp [kc a0 a1]; rfl
  · rw [isStp_of (fm := "c") rfl, fc1]; simp [kc a0 a1]; rfl
  · rw [isStp_of (fm := "c") rfl, fc1]; simp [kc a0 a1]; rfl
  · rw [isStp_of (fm := "c") rfl, fc1]; simp [kc a0 a1]; rfl
  · rw [isStp_of (fm := "ccj") rfl, fccj]; simp [kc a0 a1, kc b0 b1, kj j0 j1]; rfl
  · rw [isStp_of (fm := "ccj") rfl, fccj]; simp [kc a0 a1, kc b0 b1, kj j0 j1]; rfl
  · rw [isStp_of (fm := "cc") rfl, fcc]; simp [kc a0 a1, kc b0 b1]; rfl
  · rw [isStp_of (fm := "tcj") rfl, ftcj]; simp [kc a0 a1, kj j0 j1, kt n1]; rfl
  · rw [isStp_of (fm := "tccj") rfl, ftccj]; simp [kc a0 a1, kc b0 b1, kj j0 j1, kt n0]; rfl
  · rw [isStp_of (fm := "j") rfl, fj]; simp [kj j0 j1]; rfl
  · rw [isStp_of (fm := "") rfl, f0]; simp; rfl
  · rw [isStp_of (fm := "") rfl, f0]; simp; rfl
theorem valI_put (pl : Pls) (k k' : Key) (v : Int) : valI (putI pl k v) k' = if k' = k then some v else valI pl k' := by
  unfold putI valI
  by_cases h : (pl.any fun kv => decide (kv.1 = k)) = true
  · rw [if_pos h]
    induction pl with
    | nil => simp at h
    | cons p pl ih =>
      simp only [List.map_cons, List.find?_cons]
      by_cases e : p.1 = k
      · simp only [e, if_true]
        by_cases e2 : k' = k
        · simp [e2]
        · have e3 : ¬ k = k' := fun z => e2 z.symm
          simp only [e3, decide_false, if_neg e2]
          by_cases h2 : (pl.any fun kv => decide (kv.1 = k)) = true
          · have := ih h2
            rw [if_neg e2] at this
            exact this
          · congr 2
            have hk : ∀ q ∈ pl, ¬ q.1 = k := fun q hq z => h2 (List.any_eq_true.mpr ⟨q, hq, by simp [z]⟩)
            rw [List.map_congr_left (g := id) fun q hq => by simp [hk q hq], List.map_id]
      · simp only [e, if_false]
        by_cases e4 : p.1 = k'
        · have e2 : ¬ k' = k := fun z => e (e4.trans z)
          simp [e4, e2]
        · simp only [e4, decide_false]
          refine ih ?_
          simpa [e] using h
  · rw [if_neg h]
    have hk : ∀ q ∈ pl, ¬ q.1 = k := fun q hq z => h (List.any_eq_true.mpr ⟨q, hq, by simp [z]⟩)
    rw [List.find?_append]
    by_cases e2 : k' = k
    · rw [if_pos e2]
      have : pl.find? (fun kv => decide (kv.1 = k')) = none := List.find?_eq_none.mpr fun q hq => by simp [e2, hk q hq]
      rw [this]; simp [e2]
    · rw [if_neg e2]
      have e3 : ¬ k = k' := fun z => e2 z.symm
      simp [e3]
def PlOk (w0 w1 : Str) (pl : Pls) : Prop := ∀ y v, valI pl (.inr y) = some v → (y = w1 ∧ v = 1) ∨ (y = w0 ∧ v = 2)
theorem PlOk.nil {w0 w1 : Str} : PlOk w0 w1 [] := fun y v h => by cases h
theorem PlOk.put1 {w0 w1 : Str} {pl : Pls} (h : PlOk w0 w1 pl) : PlOk w0 w1 (putI pl (.inr w1) 1) := fun y v e => by
  rw [valI_put] at e
  split at e
  · rename_i h1
    cases h1; cases e; exact .inl ⟨rfl, rfl⟩
  · exact h y v e
theorem PlOk.put2 {w0 w1 : Str} {pl : Pls} (h : PlOk w0 w1 pl) : PlOk w0 w1 (putI pl (.inr w0) 2) := fun y v e => by
  rw [valI_put] at e
  split at e
  · rename_i h1
    cases h1; cases e; exact .inr ⟨rfl, rfl⟩
  · exact h y v e
theorem bad_plain {c n : Int} {z : Str} {xs ds : List D} {i : Nat} {pl : Pls} (h : isStp (.tup (.str z :: xs)) c n = true) (e : placesN.lookup z = none) : rowsBad c n (.tup (.str z :: xs) :: ds) i pl = rowsBad c n ds (i + 1) pl := by
  conv => lhs; unfold rowsBad
  rw [if_neg (by rw [h]; decide)]
  dsimp only
  rw [e]
theorem bad_place {c n v : Int} {z y : Str} {xs ds : List D} {i : Nat} {pl : Pls} (h : isStp (.tup (.str z :: .str y :: xs)) c n = true) (e : placesN.lookup z = some v) : rowsBad c n (.tup (.str z :: .str y :: xs) :: ds) i pl = if (valI pl (.inr y)).getD v = v then rowsBad c n ds (i + 1) (putI pl (.inr y) v) else some i := by
  conv => lhs; unfold rowsBad
  rw [if_neg (by rw [h]; decide)]
  dsimp only
  rw [e]
theorem bad_cons {c n : Int} {w0 w1 : Str} {d : D} (n0 : isNm (.str w0) = true) (n1 : isNm (.str w1) = true) (ne : w0 ≠ w1) (hd : Stp c n w0 w1 d) {pl : Pls} (hp : PlOk w0 w1 pl) (i : Nat) : ∃ pl', PlOk w0 w1 pl' ∧ ∀ ds, rowsBad c n (d :: ds) i pl = rowsBad c n ds (i + 1) pl' := by
  have hs := stp_ok n0 n1 hd
  obtain ⟨a, b, j, a0, a1, b0, b1, j0, j1, h⟩ := hd
  simp only [stpL, List.mem_cons, List.not_mem_nil, or_false] at h
  rcases h with rfl | rfl | rfl | rfl | rfl | rfl | rfl | rfl | rfl | rfl | rfl | rfl
  · exact ⟨pl, hp, fun ds => bad_plain hs rfl⟩
  · exact ⟨pl, hp, fun ds => bad_plain hs rfl⟩
  · exact ⟨pl, hp, fun ds => bad_plain hs rfl⟩
  · exact ⟨pl, hp, fun ds => bad_plain hs rfl⟩
  · exact ⟨pl, hp, fun ds => bad_plain hs rfl⟩
  · exact ⟨pl, hp, fun ds => bad_plain hs rfl⟩
  · exact ⟨pl, hp, fun ds => bad_plain hs rfl⟩
  · refine ⟨_, hp.put1, fun ds => ?_⟩
    rw [bad_place (v := 1) hs rfl, if_pos]
    cases e : valI pl (.inr w1) with
    | none => rfl
    | some v =>
      rcases hp _ _ e with ⟨_, h⟩ | ⟨h, _⟩
      · exact h
      · exact absurd h.symm ne
  · refine ⟨_, hp.put2, fun ds => ?_⟩
    rw [bad_place (v := 2) hs rfl, if_pos]
    cases e : valI pl (.inr w0) with
    | none => rfl
    | some v =>
      rcases hp _ _ e with ⟨h, _⟩ | ⟨_, h⟩
      · exact absurd h ne
      · exact h
  · exact ⟨pl, hp, fun ds => bad_plain hs rfl⟩
  · exact ⟨pl, hp, fun ds => bad_plain hs rfl⟩
  · exact ⟨pl, hp, fun ds => bad_plain hs rfl⟩
theorem bad_app {c n : Int} {w0 w1 : Str} (n0 : isNm (.str w0) = true) (n1 : isNm (.str w1) = true) (ne : w0 ≠ w1) : ∀ {ds : List D}, (∀ d ∈ ds, Stp c n w0 w1 d) → ∀ {pl : Pls}, PlOk w0 w1 pl → ∀ i : Nat, ∃ pl', PlOk w0 w1 pl' ∧ ∀ rest, rowsBad c n (ds ++ rest) i pl = rowsBad c n rest (i + ds.length) pl'
  | [], _, pl, hp, i => ⟨pl, hp, fun rest => rfl⟩
  | d :: ds, h, pl, hp, i => by
    obtain ⟨pl1, h1, e1⟩ := bad_cons n0 n1 ne (h d List.mem_cons_self) hp i
    obtain ⟨pl2, h2, e2⟩ := bad_app n0 n1 ne (fun x hx => h x (List.mem_cons_of_mem _ hx)) h1 (i + 1)
    refine ⟨pl2, h2, fun rest => ?_⟩
    rw [List.cons_append, e1, e2, List.length_cons]
    congr 1
    omega
theorem chk_good {c : Int} {w0 w1 : Str} {ys : List D} {z : D} (n0 : isNm (.str w0) = true) (n1 : isNm (.str w1) = true) (ne : w0 ≠ w1) (h : ∀ d ∈ ys ++ [z], Stp c (ys ++ [z]).length w0 w1 d) (hl : lastOk z = true) : chkRows c (ys ++ [z]) = none := by
  obtain ⟨pl, _, e⟩ := bad_app n0 n1 ne h PlOk.nil 0
  have e2 := e []
  rw [List.append_nil] at e2
  unfold chkRows
  rw [e2]
  simp [rowsBad, hl]
theorem cut_num : ∀ c ∈ cutL, isNum c 0 10000 = true ∧ (tyD c).isSome = true := by
  intro c h
  simp only [cutL, List.mem_cons, List.not_mem_nil, or_false] at h
  rcases h with rfl | rfl | rfl | rfl <;> exact ⟨by decide, rfl⟩
theorem Plan.cell {cap : Nat} {w0 w1 : Str} {cs rs : List D} {i : Nat} (h : Plan cap w0 w1 cs rs i) : 1 ≤ cs.length ∧ cs.length ≤ 3 ∧ i ≤ cs.length ∧ (∀ c ∈ cs, isNum c 0 10000 = true ∧ (tyD c).isSome = true) ∧ ∀ j, j < i → isZero (cs.getD j .non) = true := by
  obtain ⟨xs, e, h1, h2, hx⟩ := h.hcs
  have hi := h.i1
  refine ⟨by rw [e]; simp; omega, by rw [e]; simp; omega, by rw [e]; simp, fun c hc => ?_, fun j hj => ?_⟩
  · rw [e, List.mem_append] at hc
    rcases hc with hc | hc
    · rw [List.eq_of_mem_replicate hc]; exact ⟨by decide, rfl⟩
    · exact cut_num c (hx c hc)
  · have : cs[j]? = some (.int 0) := by rw [e, List.getElem?_append_left (by simpa using hj), List.getElem?_replicate, if_pos hj]
    rw [getD_of this]; rfl
/-- with a plan's cells all hangs on the rows -/
theorem Plan.rdX {cap : Nat} {w0 w1 : Str} {cs rs : List D} {i : Nat} {AA : Str → Addr} (h : Plan cap w0 w1 cs rs i) (n : Nat) (hn : n ≤ i) (rs' : List D) (hl : rs'.length ≤ 10000) : LW.rdX AA cs rs' (.int n) = (chkRows cs.length rs').map fun k => stepX (AA "InvalidStep") k := by
  obtain ⟨c1, c3, ci, hc, hz⟩ := h.cell
  have e : wideAt cs ((n : Int)).toNat = none := find_no fun j hj => by rw [hz j (by omega)]; rfl
  unfold LW.rdX
  rw [if_neg (by omega), cells_ok fun c h => (hc c h).1]
  dsimp only
  rw [if_neg (by simp [isNum]; omega), e]
  dsimp only
  rw [if_neg (by omega)]
theorem Plan.rows {cap : Nat} {w0 w1 : Str} {cs rs : List D} {i : Nat} (h : Plan cap w0 w1 cs rs i) : (∀ r ∈ rs, Stp cs.length rs.length w0 w1 r) ∧ 1 ≤ rs.length ∧ rs.length ≤ cap ∧ ∃ ys z, rs = ys ++ [z] ∧ lastOk z = true ∧ ∃ (j : Int), 0 ≤ j ∧ j < rs.length ∧ z ∈ [.tup [.str "end"], .tup [.str "refuse"], .tup [.str "jump", .int j]] := by
  obtain ⟨ys, z, e, hl, hy, hz⟩ := h.hrs
  obtain ⟨c1, _⟩ := h.cell
  have el : rs.length = ys.length + 1 := by rw [e]; simp
  have hz' : lastOk z = true ∧ ∃ (j : Int), 0 ≤ j ∧ j < rs.length ∧ z ∈ [.tup [.str "end"], .tup [.str "refuse"], .tup [.str "jump", .int j]] := by
    rcases hz with rfl | rfl | ⟨j, j0, j1, rfl⟩
    · exact ⟨by decide +kernel, 0, by omega, by omega, by simp⟩
    · exact ⟨by decide +kernel, 0, by omega, by omega, by simp⟩
    · exact ⟨by rfl, j, j0, j1, by simp⟩
  refine ⟨fun r hr => ?_, by omega, by omega, ys, z, e, hz'⟩
  rw [e, List.mem_append] at hr
  rcases hr with hr | hr
  · exact hy r hr
  · simp only [List.mem_cons, List.not_mem_nil, or_false] at hr
    obtain ⟨_, j, j0, j1, hm⟩ := hz'
    subst hr
    refine ⟨0, 0, j, by omega, by omega, by omega, by omega, j0, j1, ?_⟩
    simp only [List.mem_cons, List.not_mem_nil, or_false] at hm
    rcases hm with rfl | rfl | rfl <;> simp [stpL]
theorem Plan.good {cap : Nat} {w0 w1 : Str} {cs rs : List D} {i : Nat} {AA : Str → Addr} (h : Plan cap w0 w1 cs rs i) (hcap : cap ≤ 1000) (n0 : isNm (.str w0) = true) (n1 : isNm (.str w1) = true) (ne : w0 ≠ w1) : LW.rdX AA cs rs (.int i) = none := by
  obtain ⟨hr, l1, l2, ys, z, e, hz, _⟩ := h.rows
  rw [h.rdX i (Nat.le_refl _) rs (by omega)]
  subst e
  rw [chk_good n0 n1 ne hr hz]
  rfl
end LW
set_option Elab.async false
set_option linter.all false
set_option maxRecDepth 100000
set_option maxHeartbeats 4000000
set_option pp.maxSteps 400
namespace LW
open PySem PySem.Spec PyProof.Rows L2 EV PySem.XO PySem.W LamX
def Rowy (r : D) : Prop := ∃ (a b j : Int) (w0 w1 : Str), w0.length ≤ 1000 ∧ w1.length ≤ 1000 ∧ r ∈ stpL a b j w0 w1
theorem rowy_flat {r : D} (h : Rowy r) : Flat1 r := by
  obtain ⟨a, b, j, w0, w1, h0, h1, h⟩ := h
  have hi : ∀ i : Int, Flat (.int i) := fun i => ⟨rfl, fun y e => by cases e⟩
  have hs : ∀ z : Str, z.length ≤ 1000 → Flat (.str z) := fun z hz => ⟨rfl, fun y e => by cases e; exact szk hz⟩
  simp only [stpL, List.mem_cons, List.not_mem_nil, or_false] at h
  rcases h with rfl | rfl | rfl | rfl | rfl | rfl | rfl | rfl | rfl | rfl | rfl | rfl <;>
  · refine ⟨rfl, fun xs e => ?_⟩
    cases e
    simp only [List.mem_cons, List.not_mem_nil, or_false, forall_eq_or_imp, forall_eq]
    try simp only [hi, true_and, and_true]
    first | exact hs _ (by decide +kernel) | exact ⟨hs _ (by decide +kernel), hs _ (by assumption)⟩
theorem rowy_of {c m : Int} {w0 w1 : Str} {r : D} (n0 : isNm (.str w0) = true) (n1 : isNm (.str w1) = true) (h : Stp c m w0 w1 r) : Rowy r := by
  have hl : ∀ y : Str, isNm (.str y) = true → y.length ≤ 1000 := fun y h => by
    simp only [isNm, Bool.and_eq_true, decide_eq_true_eq] at h
    omega
  obtain ⟨a, b, j, _, _, _, _, _, _, h⟩ := h
  exact ⟨a, b, j, w0, w1, hl _ n0, hl _ n1, h⟩
end LW
set_option Elab.async false
set_option linter.all false
set_option maxRecDepth 100000
set_option maxHeartbeats 4000000
namespace EV
open PySem PySem.Spec PyProof.Rows L2
end EV
set_option Elab.async false
set_option linter.all false
set_option maxRecDepth 100000
set_option maxHeartbeats 4000000
namespace EV
open PySem PySem.Spec PyProof.Rows L2
end EV
set_option Elab.async false
set_option linter.all false
set_option maxRecDepth 100000
set_option maxHeartbeats 4000000
namespace EV
open PySem PySem.Spec PyProof.Rows L2
def gdel (G : Hp) (p : Addr) : Hp := fun a => if a = p then none else G a
theorem gdel_ne {G : Hp} {p a : Addr} (h : a ≠ p) : gdel G p a = G a := by unfold gdel; rw [if_neg h]
end EV
set_option Elab.async false
set_option linter.all false
set_option maxRecDepth 100000
set_option maxHeartbeats 4000000
namespace PySem
open Sem (wp)
end PySem
set_option Elab.async false
set_option linter.all false
set_option maxRecDepth 100000
set_option maxHeartbeats 4000000
namespace PySem
open Sem (wp)
end PySem
set_option Elab.async false
set_option linter.all false
set_option maxRecDepth 100000
set_option maxHeartbeats 4000000
namespace EV
open PySem PySem.Spec PyProof.Rows L2
end EV
set_option Elab.async false
set_option linter.all false
set_option maxRecDepth 100000
set_option maxHeartbeats 4000000
namespace EV
open PySem PySem.Spec PyProof.Rows L2
end EV
set_option Elab.async false
set_option linter.all false
set_option maxRecDepth 100000
set_option maxHeartbeats 4000000
namespace EV
open PySem PySem.Spec PyProof.Rows L2
def isOwnD (C : Addr) : PC := fun xs Q => match xs with
  | [x, .opq (.ref C')] => C' = C ∧ ((∃ fs, x = .ins C fs ∧ Q (.bl true)) ∨ ((tyD x).isSome = true ∧ Q (.bl false)))
  | _ => False
end EV
set_option Elab.async false
set_option linter.all false
set_option maxRecDepth 100000
set_option maxHeartbeats 4000000
namespace EV
open PySem PySem.Spec PyProof.Rows L2
mutual
def nz : D → Bool
  | .non => true
  | .int _ => true
  | .str x => PyData.strOk x
  | .lst xs => nzs xs
  | .tup xs => nzs xs
  | _ => false
def nzs : List D → Bool
  | [] => true
  | x :: xs => nz x && nzs xs
end
mutual
def dp : D → Nat
  | .lst xs => dps xs + 1
  | .tup xs => dps xs + 1
  | _ => 0
def dps : List D → Nat
  | [] => 0
  | x :: xs => max (dp x) (dps xs)
end
mutual
theorem toP_nz : ∀ {d : D}, nz d = true → ∃ x, toP d = some x ∧ x.canLay0 = true ∧ x.depth = dp d
  | .non, _ => ⟨_, rfl, rfl, rfl⟩
  | .int _, _ => ⟨_, rfl, rfl, rfl⟩
  | .str x, h => ⟨_, rfl, h, rfl⟩
  | .lst xs, h => by
    obtain ⟨ys, e, l, d⟩ := toPs_nz (ds := xs) (by simpa [nz] using h)
    exact ⟨.list ys, by rw [toP, e]; rfl, by simpa [PyData.canLay0] using l, by rw [PyData.depth, dp, d]⟩
  | .tup xs, h => by
    obtain ⟨ys, e, l, d⟩ := toPs_nz (ds := xs) (by simpa [nz] using h)
    exact ⟨.tuple ys, by rw [toP, e]; rfl, by simpa [PyData.canLay0] using l, by rw [PyData.depth, dp, d]⟩
theorem toPs_nz : ∀ {ds : List D}, nzs ds = true → ∃ ys, toPs ds = some ys ∧ PyData.canLayAll0 ys = true ∧ PyData.depthAll ys = dps ds
  | [], _ => ⟨[], rfl, rfl, rfl⟩
  | d :: ds, h => by
    rw [nzs, Bool.and_eq_true] at h
    obtain ⟨x, e1, l1, d1⟩ := toP_nz (d := d) h.1
    obtain ⟨ys, e2, l2, d2⟩ := toPs_nz (ds := ds) h.2
    exact ⟨x :: ys, by rw [toPs, e1, e2], by rw [PyData.canLayAll0, l1, l2]; rfl, by rw [PyData.depthAll, dps, d1, d2]⟩
end
mutual
theorem eqv_nz : ∀ {a b : D} {x y : PyData}, nz a = true → nz b = true → toP a = some x → toP b = some y → (PyData.eqv x y = true ↔ a = b)
  | .lst xs, .lst ys, _, _, ha, hb, e1, e2 => by
    simp only [toP, Option.map_eq_some_iff] at e1 e2
    obtain ⟨us, e1, rfl⟩ := e1
    obtain ⟨vs, e2, rfl⟩ := e2
    rw [PyData.eqv, eqvs_nz (by simpa [nz] using ha) (by simpa [nz] using hb) e1 e2]
    exact ⟨fun h => by rw [h], fun h => by cases h; rfl⟩
  | .tup xs, .tup ys, _, _, ha, hb, e1, e2 => by
    simp only [toP, Option.map_eq_some_iff] at e1 e2
    obtain ⟨us, e1, rfl⟩ := e1
    obtain ⟨vs, e2, rfl⟩ := e2
    rw [PyData.eqv, eqvs_nz (by simpa [nz] using ha) (by simpa [nz] using hb) e1 e2]
    exact ⟨fun h => by rw [h], fun h => by cases h; rfl⟩
  | .non, b, _, _, ha, hb, e1, e2 => by
    cases b <;> simp [nz, toP] at hb e1 e2 <;> first | (subst e1; subst e2; simp [PyData.eqv]) | (subst e1; obtain ⟨_, _, rfl⟩ := e2; simp [PyData.eqv])
  | .int i, b, _, _, ha, hb, e1, e2 => by
    cases b <;> simp [nz, toP] at hb e1 e2 <;> first | (subst e1; subst e2; simp [PyData.eqv]) | (subst e1; obtain ⟨_, _, rfl⟩ := e2; simp [PyData.eqv])
  | .str i, b, _, _, ha, hb, e1, e2 => by
    cases b <;> simp [nz, toP] at hb e1 e2 <;> first | (subst e1; subst e2; simp [PyData.eqv]) | (subst e1; obtain ⟨_, _, rfl⟩ := e2; simp [PyData.eqv])
  | .lst xs, .non, _, _, ha, hb, e1, e2 => by simp [toP] at e1 e2; obtain ⟨_, _, rfl⟩ := e1; subst e2; simp [PyData.eqv]
  | .lst xs, .int _, _, _, ha, hb, e1, e2 => by simp [toP] at e1 e2; obtain ⟨_, _, rfl⟩ := e1; subst e2; simp [PyData.eqv]
  | .lst xs, .str _, _, _, ha, hb, e1, e2 => by simp [toP] at e1 e2; obtain ⟨_, _, rfl⟩ := e1; subst e2; simp [PyData.eqv]
  | .lst xs, .tup _, _, _, ha, hb, e1, e2 => by simp [toP] at e1 e2; obtain ⟨_, _, rfl⟩ := e1; obtain ⟨_, _, rfl⟩ := e2; simp [PyData.eqv]
  | .tup xs, .non, _, _, ha, hb, e1, e2 => by simp [toP] at e1 e2; obtain ⟨_, _, rfl⟩ := e1; subst e2; simp [PyData.eqv]
  | .tup xs, .int _, _, _, ha, hb, e1, e2 => by simp [toP] at e1 e2; obtain ⟨_, _, rfl⟩ := e1; subst e2; simp [PyData.eqv]
  | .tup xs, .str _, _, _, ha, hb, e1, e2 => by simp [toP] at e1 e2; obtain ⟨_, _, rfl⟩ := e1; subst e2; simp [PyData.eqv]
  | .tup xs, .lst _, _, _, ha, hb, e1, e2 => by simp [toP] at e1 e2; obtain ⟨_, _, rfl⟩ := e1; obtain ⟨_, _, rfl⟩ := e2; simp [PyData.eqv]
  | .bl _, _, _, _, ha, _, _, _ => by simp [nz] at ha
  | .opq _, _, _, _, ha, _, _, _ => by simp [nz] at ha
  | .dic _, _, _, _, ha, _, _, _ => by simp [nz] at ha
  | .ins _ _, _, _, _, ha, _, _, _ => by simp [nz] at ha
  | .exc _ _, _, _, _, ha, _, _, _ => by simp [nz] at ha
  | .lam _, _, _, _, ha, _, _, _ => by simp [nz] at ha
  | .nk _ _ _, _, _, _, ha, _, _, _ => by simp [nz] at ha
  | .lst _, .bl _, _, _, _, hb, _, _ => by simp [nz] at hb
  | .lst _, .opq _, _, _, _, hb, _, _ => by simp [nz] at hb
  | .lst _, .dic _, _, _, _, hb, _, _ => by simp [nz] at hb
  | .lst _, .ins _ _, _, _, _, hb, _, _ => by simp [nz] at hb
  | .lst _, .exc _ _, _, _, _, hb, _, _ => by simp [nz] at hb
  | .lst _, .lam _, _, _, _, hb, _, _ => by simp [nz] at hb
  | .lst _, .nk _ _ _, _, _, _, hb, _, _ => by simp [nz] at hb
  | .tup _, .bl _, _, _, _, hb, _, _ => by simp [nz] at hb
  | .tup _, .opq _, _, _, _, hb, _, _ => by simp [nz] at hb
  | .tup _, .dic _, _, _, _, hb, _, _ => by simp [nz] at hb
  | .tup _, .ins _ _, _, _, _, hb, _, _ => by simp [nz] at hb
  | .tup _, .exc _ _, _, _, _, hb, _, _ => by simp [nz] at hb
  | .tup _, .lam _, _, _, _, hb, _, _ => by simp [nz] at hb
  | .tup _, .nk _ _ _, _, _, _, hb, _, _ => by simp [nz] at hb
theorem eqvs_nz : ∀ {as bs : List D} {xs ys : List PyData}, nzs as = true → nzs bs = true → toPs as = some xs → toPs bs = some ys → (PyData.eqvAll xs ys = true ↔ as = bs)
  | [], [], _, _, _, _, e1, e2 => by cases e1; cases e2; simp [PyData.eqvAll]
  | [], b :: bs, _, _, _, hb, e1, e2 => by
    rw [nzs, Bool.and_eq_true] at hb
    obtain ⟨y, f1, _⟩ := toP_nz hb.1
    obtain ⟨ys, f2, _⟩ := toPs_nz hb.2
    rw [toPs, f1, f2] at e2
    cases e1; cases e2; simp [PyData.eqvAll]
  | a :: as, [], _, _, ha, _, e1, e2 => by
    rw [nzs, Bool.and_eq_true] at ha
    obtain ⟨y, f1, _⟩ := toP_nz ha.1
    obtain ⟨ys, f2, _⟩ := toPs_nz ha.2
    rw [toPs, f1, f2] at e1
    cases e1; cases e2; simp [PyData.eqvAll]
  | a :: as, b :: bs, _, _, ha, hb, e1, e2 => by
    rw [nzs, Bool.and_eq_true] at ha hb
    obtain ⟨x, f1, _⟩ := toP_nz ha.1
    obtain ⟨xs, f2, _⟩ := toPs_nz ha.2
    obtain ⟨y, g1, _⟩ := toP_nz hb.1
    obtain ⟨ys, g2, _⟩ := toPs_nz hb.2
    rw [toPs, f1, f2] at e1
    rw [toPs, g1, g2] at e2
    cases e1; cases e2
    rw [PyData.eqvAll, Bool.and_eq_true, eqv_nz ha.1 hb.1 f1 g1, eqvs_nz ha.2 hb.2 f2 g2]
    exact ⟨fun h => by rw [h.1, h.2], fun h => by cases h; exact ⟨rfl, rfl⟩⟩
end
theorem shp_nz {d : D} {x : PyData} (h : nz d = true) (hd : dp d ≤ 64) (e : toP d = some x) : SeqAt.shaped x = true := by
  obtain ⟨y, e2, l, k⟩ := toP_nz h
  rw [e] at e2; cases e2
  unfold SeqAt.shaped
  rw [l, k, decide_eq_true hd]; rfl
theorem nzs_all {ds : List D} : nzs ds = true ↔ ∀ d ∈ ds, nz d = true := by
  induction ds with
  | nil => simp [nzs]
  | cons d ds ih => rw [nzs, Bool.and_eq_true, ih]; simp
theorem dps_le {ds : List D} {k : Nat} : dps ds ≤ k ↔ ∀ d ∈ ds, dp d ≤ k := by
  induction ds with
  | nil => simp [dps]
  | cons d ds ih => rw [dps, Nat.max_le, ih]; simp
end EV
set_option Elab.async false
set_option linter.all false
set_option maxRecDepth 100000
set_option maxHeartbeats 4000000
namespace EV
open PySem PySem.Spec PyProof.Rows L2
section
variable {ρ ρ' : Slots} {O O1 : Ow} {Q : QD} {E : QX} {p q : Addr} {d : D}
theorem go_var {i : Nat} (e : ρ[i]? = some (.sh d)) (h : Q d O) : dVar i ρ O Q E := by unfold dVar; rw [e]; exact h
theorem go_varF {i : Nat} (e : ρ[i]? = some (.sh (.opq (.ref p)))) (e2 : O p = some d) (h : Q d (odel O p)) : dVarF i ρ O Q E := by unfold dVarF; rw [e]; exact ⟨d, e2, h⟩
theorem go_fld {C : Addr} {f : Str} {fs : List (Str × D)} {Q : D → Prop} (e : fs.lookup f = some d) (h : Q d) : fldD C f (.ins C fs) Q := by unfold fldD; refine ⟨rfl, ?_⟩; rw [e]; exact h
theorem go_fldH {C : Addr} {f : Str} {fs : List (Str × D)} {Q : D → Prop} (e : O p = some (.ins C fs)) (e2 : fs.lookup f = some d) (h : Q d) : fldD C f (lk O (.opq (.ref p))) Q := by rw [lk_of e]; exact go_fld e2 h
theorem go_ixL {xs : List D} {k : Int} {Q : D → Prop} (e : atI xs k = some d) (h : Q d) : ixP (.lst xs) (.int k) Q := by unfold ixP; simp only [e]; exact h
theorem go_ixT {xs : List D} {k : Int} {Q : D → Prop} (e : atI xs k = some d) (h : Q d) : ixP (.tup xs) (.int k) Q := by unfold ixP; simp only [e]; exact h
theorem go_ixH {xs : List D} {k : Int} {Q : D → Prop} (e : O p = some (.lst xs)) (e2 : atI xs k = some d) (h : Q d) : ixP (lk O (.opq (.ref p))) (.int k) Q := by rw [lk_of e]; exact go_ixL e2 h
theorem go_bcT {P R : Prop} {c : Bool} (e : c = true) (h : P) : bc c P R := by subst e; exact h
theorem go_bcF {P R : Prop} {c : Bool} (e : c = false) (h : R) : bc c P R := by subst e; exact h
theorem go_set {i : Nat} {Q : Slots → Prop} (e : ρ.set i (.sh d) = ρ') (h : Q ρ') : dgName i d ρ Q := by subst e; exact h
theorem go_methH {C : Addr} {f : Str} {fs : List (Str × D)} {R : Prop} (e : O p = some (.ins C fs)) (e2 : fs.lookup f = none) (h : R) : (match lk O (.opq (.ref p)) with
  | .ins C' fs => C' = C ∧ fs.lookup f = none
  | _ => False) ∧ R := by rw [lk_of e]; exact ⟨⟨rfl, e2⟩, h⟩
theorem go_lm {xs : List D} {R : Addr → List D → Prop} (e : O p = some (.lst xs)) (h : R p xs) : ∃ p' xs0, D.opq (.ref p) = .opq (.ref p') ∧ O p' = some (.lst xs0) ∧ R p' xs0 := ⟨p, xs, rfl, e, h⟩
theorem go_lm2 {xs : List D} {R : List D → Prop} (e : O p = some (.lst xs)) (h : R xs) : ∃ xs0, O p = some (.lst xs0) ∧ R xs0 := ⟨xs, e, h⟩
theorem go_app {xs : List D} {k : D → List D → Prop} (h : xs.length < sizeLine) (q : k .non (xs ++ [d])) : appR xs [d] k := ⟨d, rfl, h, q⟩
theorem go_ext {xs zs : List D} {k : D → List D → Prop} (h : xs.length + zs.length ≤ sizeLine) (q : k .non (xs ++ zs)) : extR xs [.lst zs] k := ⟨zs, rfl, h, q⟩
theorem go_setF {C : Addr} {R : List (Str × D) → Prop} {fs : List (Str × D)} (e : O p = some (.ins C fs)) (h : R fs) : ∃ fs', O p = some (.ins C fs') ∧ R fs' := ⟨fs, e, h⟩
theorem szk' {n : Nat} (h : n ≤ 1000) : n ≤ sizeLine := Nat.le_trans h (by decide)
theorem szR {n : Nat} (h : Nat.ble n sizeLine = true) : n ≤ sizeLine := Nat.le_of_ble_eq_true h
theorem szlt {n : Nat} (h : Nat.blt n sizeLine = true) : n < sizeLine := of_decide_eq_true (by simpa [Nat.blt_eq] using h)
theorem szl {n : Nat} (h : n < 1000) : n < sizeLine := Nat.lt_of_lt_of_le h (by decide)
theorem ga0 {x0 : D} {xs : List D} : atI (x0 :: xs) 0 = some x0 := (show atI _ ((0 : Nat) : Int) = _ from atI_nat rfl)
theorem ga1 {x0 x1 : D} {xs : List D} : atI (x0 :: x1 :: xs) 1 = some x1 := (show atI _ ((1 : Nat) : Int) = _ from atI_nat rfl)
theorem ga2 {x0 x1 x2 : D} {xs : List D} : atI (x0 :: x1 :: x2 :: xs) 2 = some x2 := (show atI _ ((2 : Nat) : Int) = _ from atI_nat rfl)
theorem ga3 {x0 x1 x2 x3 : D} {xs : List D} : atI (x0 :: x1 :: x2 :: x3 :: xs) 3 = some x3 := (show atI _ ((3 : Nat) : Int) = _ from atI_nat rfl)
theorem ga4 {x0 x1 x2 x3 x4 : D} {xs : List D} : atI (x0 :: x1 :: x2 :: x3 :: x4 :: xs) 4 = some x4 := (show atI _ ((4 : Nat) : Int) = _ from atI_nat rfl)
theorem ga5 {x0 x1 x2 x3 x4 x5 : D} {xs : List D} : atI (x0 :: x1 :: x2 :: x3 :: x4 :: x5 :: xs) 5 = some x5 := (show atI _ ((5 : Nat) : Int) = _ from atI_nat rfl)
theorem ga6 {x0 x1 x2 x3 x4 x5 x6 : D} {xs : List D} : atI (x0 :: x1 :: x2 :: x3 :: x4 :: x5 :: x6 :: xs) 6 = some x6 := (show atI _ ((6 : Nat) : Int) = _ from atI_nat rfl)
theorem ga7 {x0 x1 x2 x3 x4 x5 x6 x7 : D} {xs : List D} : atI (x0 :: x1 :: x2 :: x3 :: x4 :: x5 :: x6 :: x7 :: xs) 7 = some x7 := (show atI _ ((7 : Nat) : Int) = _ from atI_nat rfl)
theorem ga8 {x0 x1 x2 x3 x4 x5 x6 x7 x8 : D} {xs : List D} : atI (x0 :: x1 :: x2 :: x3 :: x4 :: x5 :: x6 :: x7 :: x8 :: xs) 8 = some x8 := (show atI _ ((8 : Nat) : Int) = _ from atI_nat rfl)
theorem ga9 {x0 x1 x2 x3 x4 x5 x6 x7 x8 x9 : D} {xs : List D} : atI (x0 :: x1 :: x2 :: x3 :: x4 :: x5 :: x6 :: x7 :: x8 :: x9 :: xs) 9 = some x9 := (show atI _ ((9 : Nat) : Int) = _ from atI_nat rfl)
theorem ga10 {x0 x1 x2 x3 x4 x5 x6 x7 x8 x9 x10 : D} {xs : List D} : atI (x0 :: x1 :: x2 :: x3 :: x4 :: x5 :: x6 :: x7 :: x8 :: x9 :: x10 :: xs) 10 = some x10 := (show atI _ ((10 : Nat) : Int) = _ from atI_nat rfl)
theorem ga11 {x0 x1 x2 x3 x4 x5 x6 x7 x8 x9 x10 x11 : D} {xs : List D} : atI (x0 :: x1 :: x2 :: x3 :: x4 :: x5 :: x6 :: x7 :: x8 :: x9 :: x10 :: x11 :: xs) 11 = some x11 := (show atI _ ((11 : Nat) : Int) = _ from atI_nat rfl)
theorem ga12 {x0 x1 x2 x3 x4 x5 x6 x7 x8 x9 x10 x11 x12 : D} {xs : List D} : atI (x0 :: x1 :: x2 :: x3 :: x4 :: x5 :: x6 :: x7 :: x8 :: x9 :: x10 :: x11 :: x12 :: xs) 12 = some x12 := (show atI _ ((12 : Nat) : Int) = _ from atI_nat rfl)
theorem ga13 {x0 x1 x2 x3 x4 x5 x6 x7 x8 x9 x10 x11 x12 x13 : D} {xs : List D} : atI (x0 :: x1 :: x2 :: x3 :: x4 :: x5 :: x6 :: x7 :: x8 :: x9 :: x10 :: x11 :: x12 :: x13 :: xs) 13 = some x13 := (show atI _ ((13 : Nat) : Int) = _ from atI_nat rfl)
theorem ga14 {x0 x1 x2 x3 x4 x5 x6 x7 x8 x9 x10 x11 x12 x13 x14 : D} {xs : List D} : atI (x0 :: x1 :: x2 :: x3 :: x4 :: x5 :: x6 :: x7 :: x8 :: x9 :: x10 :: x11 :: x12 :: x13 :: x14 :: xs) 14 = some x14 := (show atI _ ((14 : Nat) : Int) = _ from atI_nat rfl)
theorem ga15 {x0 x1 x2 x3 x4 x5 x6 x7 x8 x9 x10 x11 x12 x13 x14 x15 : D} {xs : List D} : atI (x0 :: x1 :: x2 :: x3 :: x4 :: x5 :: x6 :: x7 :: x8 :: x9 :: x10 :: x11 :: x12 :: x13 :: x14 :: x15 :: xs) 15 = some x15 := (show atI _ ((15 : Nat) : Int) = _ from atI_nat rfl)
theorem oset_self : oset O p d p = some d := oset_same
theorem go_atK {kds : List (Key × D)} {k : Key} {o : Option D} {R : Option D → Prop} (e : valD kds k = o) (h : R o) : atDic (.dic kds) (kD k) R := ⟨k, rfl, by rw [e]; exact h⟩
theorem go_atS {kds : List (Key × D)} {x : Str} {o : Option D} {R : Option D → Prop} (e : valD kds (.inr x) = o) (h : R o) : atDic (.dic kds) (.str x) R := ⟨.inr x, rfl, by rw [e]; exact h⟩
theorem go_atI {kds : List (Key × D)} {x : Int} {o : Option D} {R : Option D → Prop} (e : valD kds (.inl x) = o) (h : R o) : atDic (.dic kds) (.int x) R := ⟨.inl x, rfl, by rw [e]; exact h⟩
theorem go_atHK {kds : List (Key × D)} {k : Key} {o : Option D} {R : Option D → Prop} (e0 : O p = some (.dic kds)) (e : valD kds k = o) (h : R o) : atDic (lk O (.opq (.ref p))) (kD k) R := by rw [lk_of e0]; exact go_atK e h
theorem go_atHS {kds : List (Key × D)} {x : Str} {o : Option D} {R : Option D → Prop} (e0 : O p = some (.dic kds)) (e : valD kds (.inr x) = o) (h : R o) : atDic (lk O (.opq (.ref p))) (.str x) R := by rw [lk_of e0]; exact go_atS e h
theorem go_dputS {kds : List (Key × D)} {x : Str} {R : List (Key × D) → Key → Prop} (e : O p = some (.dic kds)) (hl : kds.length < sizeLine) (h : R kds (.inr x)) : ∃ kds' k, O p = some (.dic kds') ∧ D.str x = kD k ∧ kds'.length < sizeLine ∧ R kds' k := ⟨kds, .inr x, e, rfl, hl, h⟩
theorem go_dputK {kds : List (Key × D)} {k : Key} {R : List (Key × D) → Key → Prop} (e : O p = some (.dic kds)) (hl : kds.length < sizeLine) (h : R kds k) : ∃ kds' k', O p = some (.dic kds') ∧ kD k = kD k' ∧ kds'.length < sizeLine ∧ R kds' k' := ⟨kds, k, e, rfl, hl, h⟩
theorem go_frz {x : D} {R : Addr → D → Prop} (e : O p = some x) (h : R p x) : ∃ p' x', D.opq (.ref p) = .opq (.ref p') ∧ O p' = some x' ∧ R p' x' := ⟨p, x, rfl, e, h⟩
theorem go_pnil {S : List (D × D) → Ow → Prop} (h : S [] O) : dPairs [] ρ O S E := h
theorem go_pcons {mk mv : DE} {ms : List (DE × DE)} {S : List (D × D) → Ow → Prop} (h : mk ρ O (fun a O1 => mv ρ O1 (fun b O2 => dPairs ms ρ O2 (fun ps O3 => S ((a, b) :: ps) O3) E) E) E) : dPairs ((mk, mv) :: ms) ρ O S E := h
variable {R : D → Prop} {xs ys : List D}
theorem go_eqI {f : Bool → Bool} {i j : Int} (h : R (.bl (f (decide (i = j))))) : eqD f (.int i) (.int j) R := h
theorem go_eqS {f : Bool → Bool} {i j : Str} (h : R (.bl (f (decide (i = j))))) : eqD f (.str i) (.str j) R := h
theorem go_eqB {f : Bool → Bool} {i j : Bool} (h : R (.bl (f (decide (i = j))))) : eqD f (.bl i) (.bl j) R := h
theorem go_neg {i : Int} (h : R (.int (-i))) : negD (.int i) R := h
theorem go_lenL (h : R (.int xs.length)) : lenO O [.lst xs] R := h
theorem go_lenT (h : R (.int xs.length)) : lenO O [.tup xs] R := h
theorem go_lenS {y : Str} (hl : y.length ≤ sizeLine) (h : R (.int y.length)) : lenO O [.str y] R := ⟨hl, h⟩
theorem go_lenH (e : O p = some (.lst xs)) (h : R (.int xs.length)) : lenO O [.opq (.ref p)] R := by unfold lenO; rw [List.map_cons, lk_of e]; exact h
theorem go_tupL (h : R (.tup xs)) : tupO O [.lst xs] R := h
theorem go_tupT (h : R (.tup xs)) : tupO O [.tup xs] R := h
theorem go_tupH (e : O p = some (.lst xs)) (h : R (.tup xs)) : tupO O [.opq (.ref p)] R := by unfold tupO; rw [List.map_cons, lk_of e]; exact h
theorem go_listL (h : R (.lst xs)) : listO O [.lst xs] R := h
theorem go_listT (h : R (.lst xs)) : listO O [.tup xs] R := h
theorem go_listH (e : O p = some (.lst xs)) (h : R (.lst xs)) : listO O [.opq (.ref p)] R := by unfold listO; rw [List.map_cons, lk_of e]; exact h
theorem go_all {α : Type} {l : List α} {f : α → Bool} (h : R (.bl (l.all f))) : allD [.lst (l.map fun x => .bl (f x))] R := allD_of (toBs_map f l) (by rw [List.all_map]; exact h)
theorem go_any {α : Type} {l : List α} {f : α → Bool} (h : R (.bl (l.any f))) : anyD [.lst (l.map fun x => .bl (f x))] R := anyD_of (toBs_map f l) (by rw [List.any_map]; exact h)
theorem go_isi {d : D} {n : String} {b : Bool} (e1 : kn n = true) (e2 : (tyD d).isSome = true) (e : isiB d n = b) (h : R (.bl b)) : isiD [d, .opq (.ty n)] R := ⟨e1, e2, by rw [e]; exact h⟩
theorem go_inS {f : Bool → Bool} {x : Str} {ss : List Str} (e : toSs xs = some ss) (h : R (.bl (f (ss.any fun z => decide (x = z))))) : inSD f (.str x) (.tup xs) R := by unfold inSD; dsimp only; rw [e]; exact h
theorem go_inSL {f : Bool → Bool} {x : Str} {ss : List Str} (e : toSs xs = some ss) (h : R (.bl (f (ss.any fun z => decide (x = z))))) : inSD f (.str x) (.lst xs) R := by unfold inSD; dsimp only; rw [e]; exact h
theorem go_sortS {ss : List Str} (hl : ss.length < 64) (h : R (.lst ((srtS ss).map D.str))) : sortSD O [.lst (ss.map D.str)] R := ⟨ss, rfl, hl, h⟩
theorem go_own {C : Addr} {fs : List (Str × D)} (h : R (.bl true)) : isOwnD C [.ins C fs, .opq (.ref C)] R := ⟨rfl, .inl ⟨fs, rfl, h⟩⟩
theorem go_st {s rest : DS} {A : DEnds} (h : ∀ N : Slots → Ow → Prop, N = (fun ρ O => rest A ρ O) → s { A with nx := N } ρ O) : dSeq s rest A ρ O := h _ rfl
theorem goN {N M : Slots → Ow → Prop} (e : N = M) (h : M ρ O) : N ρ O := e ▸ h
theorem go_for {g : DG} {b : DS} {A : DEnds} (xs : List D) (J : Nat → Slots → Ow → Prop) (j0 : J 0 ρ O) (step : ∀ i d, xs[i]? = some d → ∀ ρ O, J i ρ O → ∀ N : Slots → Ow → Prop, (∀ r O, J (i + 1) r O → N r O) → g d ρ fun ρ' => b { A with nx := N, ct := N, bk := A.nx } ρ' O) (k : ∀ r O, J xs.length r O → A.nx r O) : forW tt1 g b A xs ρ O :=
  forW_at xs J (fun _ _ _ _ => trivial) step k (i := 0) rfl (Nat.zero_le _) j0
theorem go_lc {g : DG} {te : DE} {Q : List D → Ow → Prop} {ds acc : List D} (f : D → D) (h : ∀ d ∈ ds, ∀ Qy : QD, Qy (f d) O → g d ρ fun ρ' => te ρ' O Qy fun _ _ => False) (hl : acc.length + ds.length ≤ sizeLine) (q : Q (acc ++ ds.map f) O) : lcW tt1 g dYes te ρ ds acc O Q := lcW_map trivial f h hl q
theorem rng_get {n i : Nat} {d : D} (h : (rngD 0 n)[i]? = some d) : i < n ∧ d = .int i := by
  unfold rngD at h
  rw [List.getElem?_map] at h
  by_cases hi : i < n
  · rw [List.getElem?_range hi] at h
    simp at h
    exact ⟨hi, h.symm⟩
  · rw [List.getElem?_eq_none (by simp; omega)] at h; cases h
end
end EV
set_option Elab.async false
set_option linter.all false
set_option maxRecDepth 100000
set_option maxHeartbeats 4000000
namespace EV
open PySem PySem.Spec PyProof.Rows L2
section
variable {X : Cx} {L : Pl} {c : Expr} {mt : DT} {ms : DS} {pos : Pos}
abbrev dWhile (t : DT) (b : DS) : DS := fun A ρ O => ∃ W : Nat → Slots → Ow → Prop, (∃ m, W m ρ O) ∧ ∀ m ρ O, W m ρ O →
  t ρ O (fun c O1 => bc c (∃ N : Slots → Ow → Prop, (∀ r O', N r O' → ∃ m', m' < m ∧ W m' r O') ∧ b { A with nx := N, ct := N, bk := A.nx } ρ O1) (A.nx ρ O1)) (fun x O1 => A.ex x ρ O1)
theorem mo_while (ht : Mo mt) (hb : MoS ms) : MoS (dWhile mt ms) := fun A A' ρ O l ⟨W, w0, turn⟩ => ⟨W, w0, fun m ρ O w => ht _ _ _ _ _ _ (fun c O1 z => by
    cases c with
    | true =>
      obtain ⟨N, hN, z⟩ := z
      exact ⟨N, hN, hb { A with nx := N, ct := N, bk := A.nx } { A' with nx := N, ct := N, bk := A'.nx } _ _ ⟨fun _ _ y => y, l.rt, l.nx, fun _ _ y => y, l.ex⟩ z⟩
    | false => exact l.nx _ _ z) (fun x _ z => l.ex _ _ _ z) (turn m ρ O w)⟩
theorem d_while {body : List Stmt} (hp : PassesOwn (model X.prog X.w) X.A X.env X.xe) (hc : DPT X L c mt) (hb : DPSs X L body ms) : DPS X L (.While c body [] pos) (dWhile mt ms) := by
  refine ⟨mo_while hc.mo hb.mo, ps_imp (ps_while hp hc.run hb.run) fun Dn σ H ⟨G, O, ρ, gd, rs, W, ⟨m0, w0⟩, turn⟩ => ?_⟩
  refine ⟨fun m σ' H' => ∃ G' O' ρ', Step X.K L.B O G H O' G' H' ∧ RpS X.K G' σ' ρ' ∧ W m ρ' O', ⟨m0, G, O, ρ, Step.refl gd, rs, w0⟩, ?_⟩
  rintro m σ1 H1 ⟨G1, O1, ρ1, s1, rs1, w1⟩
  refine upTE hc.mo s1.good rs1 (hc.mo _ _ _ _ _ _ (fun _ _ z => z) (fun x O2 z => (dn_step s1).ex x ρ1 O2 z) (turn m ρ1 O1 w1)) fun b O2 G2 H2 z s2 => ?_
  cases b with
  | true =>
    obtain ⟨N, hN, z⟩ := z
    rw [if_pos rfl]
    have s12 := s1.trans s2
    refine ⟨fun σ' H' => ∃ G' O' ρ', Step X.K L.B O G H O' G' H' ∧ RpS X.K G' σ' ρ' ∧ N ρ' O', fun σ' H' ⟨G', O', ρ', a, b, n⟩ => ?_, ?_⟩
    · obtain ⟨m', hm, w'⟩ := hN ρ' O' n
      exact ⟨m', hm, G', O', ρ', a, b, w'⟩
    · refine ⟨G2, O2, ρ1, s2.good, rs1.step s2, hb.mo { dn X.K L O G H Dn with nx := N, ct := N, bk := (dn X.K L O G H Dn).nx } _ _ _ ⟨fun r O4 w σ4 G4 H4 s4 rs4 => ?_, fun r O4 w v G4 H4 s4 r4 => ?_, fun r O4 w σ4 G4 H4 s4 rs4 => ?_, fun r O4 w σ4 G4 H4 s4 rs4 => ?_, fun x r O4 w σ4 d fs G4 H4 s4 rs4 a b => ?_⟩ z⟩
      · exact ⟨G4, O4, r, s12.trans s4, rs4, w⟩
      · exact w v G4 H4 (s12.trans s4) r4
      · exact w σ4 G4 H4 (s12.trans s4) rs4
      · exact ⟨G4, O4, r, s12.trans s4, rs4, w⟩
      · exact w σ4 d fs G4 H4 (s12.trans s4) rs4 a b
  | false =>
    rw [if_neg (by decide)]
    exact z _ _ _ (s1.trans s2) (rs1.step s2)
/-- min of two whole numbers -/
def min2D : PC
  | [.int i, .int j], Q => Q (.int (if j < i then j else i))
  | _, _ => False
theorem go_min2 {i j : Int} {R : D → Prop} (h : R (.int (if j < i then j else i))) : min2D [.int i, .int j] R := h
end
end EV
set_option Elab.async false
set_option linter.all false
set_option maxRecDepth 100000
set_option maxHeartbeats 4000000
namespace PySem
open Sem (wp)
end PySem
set_option Elab.async false
set_option linter.all false
set_option maxRecDepth 100000
set_option maxHeartbeats 4000000
namespace EV
open PySem PySem.Spec PyProof.Rows L2
end EV
set_option Elab.async false
set_option linter.all false
set_option maxRecDepth 100000
set_option maxHeartbeats 4000000
namespace EV
open PySem PySem.Spec PyProof.Rows L2
end EV
set_option Elab.async false
set_option linter.all false
set_option maxRecDepth 100000
set_option maxHeartbeats 4000000
namespace EV
open PySem PySem.Spec PyProof.Rows L2
section
variable {X : Cx} {L : Pl} {a b c : Expr} {ma mb mc : DE} {pos pos' : Pos}
abbrev dLPut (ma mb mv : DE) : DS := fun A ρ O => mv ρ O (fun v O1 => ma ρ O1 (fun x O2 => mb ρ O2 (fun y O3 => ∃ p xs k j, x = .opq (.ref p) ∧ y = .int k ∧ O3 p = some (.lst xs) ∧ ixN xs.length k = some j ∧ A.nx ρ (oset O3 p (.lst (xs.set j v)))) (fun x O => A.ex x ρ O)) (fun x O => A.ex x ρ O)) (fun x O => A.ex x ρ O)
theorem d_lput (ha : DPE X L a ma) (hb : DPE X L b mb) (hv : DPE X L c mc) (hA : ∀ v, assign (.Subscript a b pos') X.env v = (do
      let ov ← holding [v] (eval a X.env)
      let iv ← holding [v, ov] (eval b X.env)
      standAt pos'
      holding [v, ov, iv] (setItem ov iv v)
      release [v, ov, iv] [])) (hs : swapsWithSole [.Subscript a b pos'] c pos.line X.env = pure false) (hw : swappedStores [.Subscript a b pos'] c X.env = pure none) : DPS X L (.Assign [.Subscript a b pos'] c pos) (dLPut ma mb mc) := by
  refine ⟨fun A A' ρ O l z => hv.mo _ _ _ _ _ _ (fun v _ y => ha.mo _ _ _ _ _ _ (fun x _ y => hb.mo _ _ _ _ _ _ (fun k _ ⟨p, xs, i, j, e1, e2, e3, e4, z⟩ => ⟨p, xs, i, j, e1, e2, e3, e4, l.nx _ _ z⟩) (fun x _ y => l.ex _ _ _ y) y) (fun x _ y => l.ex _ _ _ y) y) (fun x _ y => l.ex _ _ _ y) z, ps_imp (ps_asg hv.run (pg_sub ha.run hb.run set_list hA) hs hw) fun Dn σ H ⟨G, O, ρ, g, rs, q⟩ => ?_⟩
  refine upE hv.mo g rs q fun v vv O1 G1 H1 q1 s1 r1 => ?_
  refine upE ha.mo s1.good (rs.step s1) (ha.mo _ _ _ _ _ _ (fun x O2 y => hb.mo _ _ _ _ _ _ (fun k O3 y => y) (fun x O z => (dn_step s1).ex x ρ O z) y) (fun x O z => (dn_step s1).ex x ρ O z) q1) fun x vx O2 G2 H2 q2 s2 r2 => ?_
  have s12 := s1.trans s2
  refine upE hb.mo s2.good (rs.step s12) (hb.mo _ _ _ _ _ _ (fun k O3 y => y) (fun x O z => (dn_step s2).ex x ρ O z) q2) fun y vy O3 G3 H3 q3 s3 r3 => ?_
  have s13 := s12.trans s3
  obtain ⟨p, xs, k, j, rfl, rfl, eo, ej, z⟩ := q3
  cases r2
  cases r3
  obtain ⟨nG, nb, vs, hp, rl⟩ := s3.good.own p _ eo
  have rv := r1.mono (s2.trans s3).grow
  have st := Step.put (o := .lst (vs.set j vv)) (d := .lst (xs.set j v)) s3.good nG nb ⟨_, upd_same, RpL.set rv j rl⟩ (.inl (by rw [eo]; exact Option.some_ne_none _))
  exact ⟨p, vs, k, j, rfl, rfl, hp, by rw [rl.length]; exact ej, z _ _ _ (s13.trans st) (rs.step (s13.trans st))⟩
end
section
variable {ρ : Slots} {O : Ow} {p : Addr} {d : D}
theorem go_lput {xs : List D} {i : Nat} {R : Addr → List D → Nat → Prop} (e : O p = some (.lst xs)) (hi : i < xs.length) (h : R p xs i) : ∃ p' xs' k j, D.opq (.ref p) = .opq (.ref p') ∧ D.int (i : Int) = .int k ∧ O p' = some (.lst xs') ∧ ixN xs'.length k = some j ∧ R p' xs' j := by
  refine ⟨p, xs, i, i, rfl, rfl, e, ?_, h⟩
  unfold ixN
  rw [if_pos (by omega)]
  rw [if_pos (by omega)]
  rfl
end
end EV
set_option Elab.async false
set_option linter.all false
set_option maxRecDepth 100000
set_option maxHeartbeats 4000000
namespace EV
open PySem PySem.Spec PyProof.Rows L2
end EV
set_option Elab.async false
set_option linter.all false
set_option maxRecDepth 100000
set_option maxHeartbeats 4000000
namespace EV
open PySem PySem.Spec PyProof.Rows L2
end EV
set_option Elab.async false
set_option linter.all false
set_option maxRecDepth 100000
set_option maxHeartbeats 4000000
namespace EV
open PySem PySem.Spec PyProof.Rows L2
section
variable {ρ : Slots} {O : Ow} {Q : QD} {E : QX} {R : D → Prop} {xs ys : List D}
theorem go_lcNil {I : Ow → Prop} {g : DG} {tt : DT} {te : DE} {acc : List D} {Q : List D → Ow → Prop} (hI : I O) (h : Q acc O) : lcW I g tt te ρ [] acc O Q := ⟨hI, h⟩
theorem go_lcCons {I : Ow → Prop} {g : DG} {tt : DT} {te : DE} {d : D} {ds acc : List D} {Q : List D → Ow → Prop} (h : I O ∧ g d ρ fun ρ' => tt ρ' O (fun c O1 => bc c (te ρ' O1 (fun y O2 => acc.length < sizeLine ∧ lcW I g tt te ρ ds (acc ++ [y]) O2 Q) (fun _ _ => False)) (lcW I g tt te ρ ds acc O1 Q)) (fun _ _ => False)) : lcW I g tt te ρ (d :: ds) acc O Q := h
abbrev natD (t : Nat) : D := .int (t : Int)
theorem toPs_nats : ∀ l : List Nat, toPs (l.map natD) = some (l.map fun t : Nat => PyData.int (t : Int))
  | [] => rfl
  | x :: l => by rw [List.map_cons, toPs, toPs_nats l]; rfl
theorem shp_nats (l : List Nat) : SeqAt.shaped (.list (l.map fun t : Nat => PyData.int (t : Int))) = true := by
  have h : ∀ l : List Nat, PyData.canLayAll0 (l.map fun t : Nat => PyData.int (t : Int)) = true ∧ PyData.depthAll (l.map fun t : Nat => PyData.int (t : Int)) ≤ 1 := by
    intro l
    induction l with
    | nil => simp [PyData.canLayAll0, PyData.depthAll]
    | cons x r ih => simp [PyData.canLayAll0, PyData.depthAll, PyData.canLay0, PyData.depth, ih]
  have := h l
  simp [SeqAt.shaped, PyData.canLay0, PyData.depth, this.1]
  omega
end
end EV
set_option Elab.async false
set_option linter.all false
set_option maxRecDepth 100000
set_option maxHeartbeats 4000000
set_option pp.maxSteps 1500
namespace LW
open PySem PySem.Spec PyProof.Rows L2 EV PySem.XO PySem.W LamX
inductive Rw where
  | read (c : Nat) | zero (c : Nat) | top (c : Nat) | up (c : Nat) | copy (a b : Nat) | same (a b j : Nat) | less (a b j : Nat)
  | has (y : Str) (a j : Nat) | link (y : Str) (a b j : Nat) | jump (j : Nat) | fin | ref
def Rw.d : Rw → D
  | .read c => .tup [.str "read", natD c] | .zero c => .tup [.str "zero", natD c] | .top c => .tup [.str "top", natD c] | .up c => .tup [.str "up", natD c]
  | .copy a b => .tup [.str "copy", natD a, natD b] | .same a b j => .tup [.str "same", natD a, natD b, natD j] | .less a b j => .tup [.str "less", natD a, natD b, natD j]
  | .has y a j => .tup [.str "has", .str y, natD a, natD j] | .link y a b j => .tup [.str "link", .str y, natD a, natD b, natD j] | .jump j => .tup [.str "jump", natD j]
  | .fin => .tup [.str "end"] | .ref => .tup [.str "refuse"]
def Rw.goes : Rw → Bool
  | .jump _ | .fin | .ref => false
  | _ => true
def Rw.ok (nc nr : Nat) (T : List (Str × Nat × List (List Int))) : Rw → Prop
  | .read c | .zero c | .top c | .up c => c < nc
  | .copy a b => a < nc ∧ b < nc
  | .same a b j | .less a b j => a < nc ∧ b < nc ∧ j < nr
  | .has y a j => a < nc ∧ j < nr ∧ ∃ rs, (y, 1, rs) ∈ T
  | .link y a b j => a < nc ∧ b < nc ∧ j < nr ∧ ∃ rs, (y, 2, rs) ∈ T
  | .jump j => j < nr
  | .fin | .ref => True
end LW
set_option Elab.async false
set_option linter.all false
set_option maxRecDepth 100000
set_option maxHeartbeats 4000000
set_option pp.maxSteps 400
set_option Elab.async false
set_option linter.all false
set_option maxRecDepth 100000
set_option maxHeartbeats 4000000
set_option pp.maxSteps 400
set_option Elab.async false
set_option linter.all false
set_option maxRecDepth 100000
set_option maxHeartbeats 4000000
namespace EV
open PySem PySem.Spec PyProof.Rows L2
section
variable {X : Cx} {L : Pl} {e : Expr} {m : DE} {pos : Pos}
def jsD (acc : Str) (x : D) (R : Str → Prop) : Prop := ∃ y : Str, x = .str y ∧ (acc ++ y).length ≤ sizeLine ∧ R (acc ++ y)
theorem jsD_mo {acc : Str} {x : D} {R R' : Str → Prop} (h : ∀ y, R y → R' y) : jsD acc x R → jsD acc x R' := fun ⟨y, a, b, c⟩ => ⟨y, a, b, h _ c⟩
def dJs : List DE → Str → DE
  | [], acc => fun _ O Q _ => Q (.str acc) O
  | m :: ms, acc => fun ρ O Q E => m ρ O (fun x O1 => jsD acc x fun a => dJs ms a ρ O1 Q E) E
inductive DJ (X : Cx) (L : Pl) : List Expr → List DE → Prop where
  | nil : DJ X L [] []
  | cons {e : Expr} {m : DE} {es : List Expr} {ms : List DE} (h : DPE X L e m) (r : DJ X L es ms) : DJ X L (e :: es) (m :: ms)
theorem DJ.mo {es : List Expr} {ms : List DE} (h : DJ X L es ms) : ∀ acc, Mo (dJs ms acc) := by
  induction h with
  | nil => exact fun acc ρ O Q Q' E E' q hx x => q _ _ x
  | cons h r ih => exact fun acc ρ O Q Q' E E' q hx x => h.mo ρ _ _ _ _ _ (fun d O1 z => jsD_mo (fun a y => ih a _ _ _ _ _ _ q hx y) z) hx x
end
end EV
set_option Elab.async false
set_option linter.all false
set_option maxRecDepth 100000
set_option maxHeartbeats 4000000
namespace EV
open PySem PySem.Spec PyProof.Rows L2
end EV
set_option Elab.async false
set_option linter.all false
set_option maxRecDepth 100000
set_option maxHeartbeats 4000000
namespace EV
open PySem PySem.Spec PyProof.Rows L2
end EV
set_option Elab.async false
set_option linter.all false
set_option maxRecDepth 100000
set_option maxHeartbeats 4000000
namespace EV
open PySem PySem.Spec PyProof.Rows L2
mutual
def noL : D → Bool
  | .non => true
  | .bl _ => true
  | .int _ => true
  | .str _ => true
  | .opq _ => true
  | .lst _ => false
  | .tup ds => noLs ds
  | .dic ks => noLk ks
  | .ins _ fs => noLf fs
  | .exc _ _ => false
  | .lam _ => false
  | .nk _ _ _ => false
def noLs : List D → Bool
  | [] => true
  | d :: r => noL d && noLs r
def noLk : List (Key × D) → Bool
  | [] => true
  | (_, d) :: r => noL d && noLk r
def noLf : List (Str × D) → Bool
  | [] => true
  | (_, d) :: r => noL d && noLf r
end
theorem noLs_of : ∀ {xs : List D}, (∀ x ∈ xs, noL x = true) → noLs xs = true
  | [], _ => by rw [noLs]
  | x :: r, h => by rw [noLs, h x (by simp), noLs_of fun y hy => h y (List.mem_cons_of_mem _ hy)]; rfl
section
variable {K : PySem.W.Frag} {G : Hp} {p : Addr} {l : List V}
mutual
theorem Rp.del (hp : G p = some (.lst l)) : ∀ {d : D} {v : V}, noL d = true → Rp K G v d → Rp K (gdel G p) v d
  | .non, _, _, .non => .non
  | .bl _, _, _, .bl b => .bl b
  | .int _, _, _, .int i => .int i
  | .str _, _, _, .str x => .str x
  | .opq _, _, _, .opq v => .opq v
  | .lst _, _, n, .lst h r => by simp [noL] at n
  | .exc _ _, _, n, .exc h x q r => by simp [noL] at n
  | .lam _, _, n, .lam h q r => by simp [noL] at n
  | .nk _ _ _, _, n, .nk h => by simp [noL] at n
  | .tup ds, _, n, .tup h r => by
    rw [noL] at n
    refine .tup ?_ (RpL.del hp n r)
    rcases h with h | h
    · rcases h with h | ⟨o, h⟩
      · exact .inl (.inl (by rw [gdel_ne (fun z => by rw [z, hp] at h; cases h)]; exact h))
      · exact .inl (.inr ⟨o, by rw [gdel_ne (fun z => by rw [z, hp] at h; cases h)]; exact h⟩)
    · exact .inr h
  | .dic ks, _, n, .dic h r => by
    rw [noL] at n
    exact .dic (by rw [gdel_ne (fun z => by rw [z, hp] at h; cases h)]; exact h) (RpK.del hp n r)
  | .ins _ fs, _, n, .ins h r => by
    rw [noL] at n
    exact .ins (by rw [gdel_ne (fun z => by rw [z, hp] at h; cases h)]; exact h) (RpF.del hp n r)
theorem RpL.del (hp : G p = some (.lst l)) : ∀ {ds : List D} {vs : List V}, noLs ds = true → RpL K G vs ds → RpL K (gdel G p) vs ds
  | [], _, _, .nil => .nil
  | _ :: _, _, n, .cons h r => by
    rw [noLs, Bool.and_eq_true] at n
    exact .cons (Rp.del hp n.1 h) (RpL.del hp n.2 r)
theorem RpK.del (hp : G p = some (.lst l)) : ∀ {ds : List (Key × D)} {vs : List (Key × V)}, noLk ds = true → RpK K G vs ds → RpK K (gdel G p) vs ds
  | [], _, _, .nil => .nil
  | _ :: _, _, n, .cons h r => by
    rw [noLk, Bool.and_eq_true] at n
    exact .cons (Rp.del hp n.1 h) (RpK.del hp n.2 r)
theorem RpF.del (hp : G p = some (.lst l)) : ∀ {ds : List (Str × D)} {vs : List (Str × V)}, noLf ds = true → RpF K G vs ds → RpF K (gdel G p) vs ds
  | [], _, _, .nil => .nil
  | _ :: _, _, n, .cons h r => by
    rw [noLf, Bool.and_eq_true] at n
    exact .cons (Rp.del hp n.1 h) (RpF.del hp n.2 r)
end
end
/-- one's own thing holds no list within -/
def nlO : D → Bool
  | .lst ds => noLs ds
  | .dic ks => noLk ks
  | .ins _ fs => noLf fs
  | _ => false
theorem RpO.del {K : PySem.W.Frag} {G H : Hp} {p q : Addr} {l : List V} (hp : G p = some (.lst l)) : ∀ {d : D}, nlO d = true → RpO K G H q d → RpO K (gdel G p) H q d
  | .lst _, n, ⟨vs, h, r⟩ => ⟨vs, h, r.del hp n⟩
  | .dic _, n, ⟨vs, h, r⟩ => ⟨vs, h, r.del hp n⟩
  | .ins _ _, n, ⟨dx, fs, h, r⟩ => ⟨dx, fs, h, r.del hp n⟩
end EV
set_option Elab.async false
set_option linter.all false
set_option maxRecDepth 100000
set_option maxHeartbeats 4000000
namespace EV
open PySem PySem.Spec PyProof.Rows L2
end EV
set_option Elab.async false
set_option linter.all false
set_option maxRecDepth 100000
set_option maxHeartbeats 4000000
namespace EV
open PySem PySem.Spec PyProof.Rows L2
section
variable {X : Cx} {L : Pl} {K : PySem.W.Frag} {B : Bo} {O O1 O' : Ow} {G H G' H' : Hp} {st : Stmt} {ms : DS}
theorem Good.less (g : Good K B O G H) (h : OSub O1 O) : Good K B O1 G H := ⟨g.sub, g.box, g.amb, fun p d e => g.own p d (h p d e)⟩
theorem osub_none (h : OSub O1 O) {a : Addr} (e : O a = none) : O1 a = none := by
  cases z : O1 a with
  | none => rfl
  | some d => rw [h a d z] at e; cases e
theorem Step.more (s : Step K B O1 G H O' G' H') (h : OSub O1 O) : Step K B O G H O' G' H' :=
  ⟨s.grow, s.good, fun a o e n z => s.keep a o e n (osub_none h z), fun a o e g z => s.hid a o e g (osub_none h z), s.still⟩
end
end EV
set_option Elab.async false
set_option linter.all false
set_option maxRecDepth 100000
set_option maxHeartbeats 4000000
set_option pp.maxSteps 1200
namespace LW
open PySem PySem.Spec PyProof.Rows L2 EV PySem.XO PySem.W LamX
local macro_rules | `(tactic| walk_at "fd") => `(tactic| first | assumption | rfl)
local macro_rules | `(tactic| walk_at "ow") => `(tactic| first | assumption | exact oset_self | (rw [oset_ne (by assumption)]; walk_at "ow") | (rw [oset_ne (Ne.symm (by assumption))]; walk_at "ow"))
local macro_rules | `(tactic| walk_at "ix") => `(tactic| first | exact EV.ga0 | exact EV.ga1 | exact EV.ga2 | exact EV.ga3 | exact EV.ga4 | exact EV.ga5 | exact EV.ga6 | exact EV.ga7 | exact EV.ga8 | exact EV.ga9 | exact EV.ga10 | exact EV.ga11 | exact EV.ga12 | exact EV.ga13 | exact EV.ga14 | exact EV.ga15 | assumption | rfl)
local macro_rules | `(tactic| walk_at "sz") => `(tactic| first | exact trivial | (with_reducible assumption) | omega | ((with_reducible refine szR ?_); exact rfl) | ((with_reducible refine szk' ?_); omega) | ((with_reducible refine szl ?_); omega) | exact szlt rfl | rfl | exact ⟨rfl, by assumption⟩ | exact ⟨rfl, rfl⟩ | exact ⟨_, rfl⟩ | ((with_reducible refine szk' ?_); simp only [List.length_cons, List.length_nil, List.length_append, List.length_map]; omega) | (unfold CMul; omega) | (unfold CDiv; omega) | (unfold CPow; exact ⟨by omega, by omega, by omega⟩) | (constructor; · omega; · omega))
local macro_rules | `(tactic| walk_at "val") => `(tactic| first | assumption | exact rfl)
local macro_rules | `(tactic| walk_at "ty") => `(tactic| first | assumption | exact rfl)
local macro_rules | `(tactic| walk_at "bt") => `(tactic| first | exact rfl | assumption)
local macro_rules | `(tactic| walk_at "n") => `(tactic| refine st_norm (by simp only [List.set_cons_succ, List.set_cons_zero]; rfl) ?_)
local macro_rules | `(tactic| walk_at "wh") => `(tactic| with_reducible conv => whnf)
local macro_rules | `(tactic| walk_at "call") => `(tactic| fail)
local macro_rules | `(tactic| walk_at "go1") => `(tactic| first
  | ((with_reducible apply go_var); (· exact rfl))
  | ((with_reducible apply go_varF); (· exact rfl); (· walk_at "ow"))
  | ((with_reducible apply go_set); (· (simp only [wipeD, List.map_cons, List.map_nil, List.set_cons_succ, List.set_cons_zero]; rfl)))
  | ((with_reducible apply go_fld); (· walk_at "fd"))
  | ((with_reducible apply go_fldH); (· walk_at "ow"); (· walk_at "fd"))
  | ((with_reducible apply go_ixT); (· walk_at "ix"))
  | ((with_reducible apply go_ixL); (· walk_at "ix"))
  | ((with_reducible apply go_ixH); (· walk_at "ow"); (· walk_at "ix"))
  | ((with_reducible apply go_bcT); (· walk_at "bt"))
  | ((with_reducible apply go_bcF); (· walk_at "bt"))
  | ((with_reducible apply go_methH); (· walk_at "ow"); (· walk_at "fd"))
  | ((with_reducible apply And.intro); (· walk_at "sz"))
  | ((with_reducible apply go_lm); (· walk_at "ow"))
  | ((with_reducible apply go_lm2); (· walk_at "ow"))
  | ((with_reducible apply go_app); (· walk_at "sz"))
  | ((with_reducible apply go_ext); (· walk_at "sz"))
  | ((with_reducible apply go_setF); (· walk_at "ow"))
  | ((with_reducible apply go_frz); (· walk_at "ow"))
  | ((with_reducible apply go_atK); (· walk_at "val"))
  | ((with_reducible apply go_atS); (· walk_at "val"))
  | ((with_reducible apply go_atI); (· walk_at "val"))
  | ((with_reducible apply go_atHK); (· walk_at "ow"); (· walk_at "val"))
  | ((with_reducible apply go_atHS); (· walk_at "ow"); (· walk_at "val"))
  | ((with_reducible apply go_dputS); (· walk_at "ow"); (· walk_at "sz"))
  | ((with_reducible apply go_dputK); (· walk_at "ow"); (· walk_at "sz"))
  | (with_reducible apply go_eqI)
  | (with_reducible apply go_eqS)
  | (with_reducible apply go_eqB)
  | (with_reducible apply go_neg)
  | (with_reducible apply go_lenL)
  | (with_reducible apply go_lenT)
  | ((with_reducible apply go_lenS); (· walk_at "sz"))
  | ((with_reducible apply go_lenH); (· walk_at "ow"))
  | (with_reducible apply go_tupL)
  | (with_reducible apply go_tupT)
  | ((with_reducible apply go_tupH); (· walk_at "ow"))
  | (with_reducible apply go_listL)
  | (with_reducible apply go_listT)
  | ((with_reducible apply go_listH); (· walk_at "ow"))
  | (with_reducible apply go_all)
  | (with_reducible apply go_any)
  | ((with_reducible apply go_isi); (· exact rfl); (· walk_at "ty"); (· walk_at "val"))
  | ((with_reducible apply go_inS); (· exact rfl))
  | ((with_reducible apply go_inSL); (· exact rfl))
  | ((with_reducible apply go_sortS); (· walk_at "sz"))
  | (with_reducible apply go_own)
  | (with_reducible apply go_pnil)
  | (with_reducible apply go_pcons)
  | ((with_reducible apply go_lcNil); (· exact trivial))
  | (with_reducible apply go_lcCons)
  | (with_reducible apply go_min2)
  | walk_at "call")
local macro_rules | `(tactic| walk_at "go") => `(tactic| (walk_at "wh"; repeat (walk_at "go1"; walk_at "wh")))
local macro_rules | `(tactic| walk_at "all") => `(tactic| (walk_at "wh"; repeat ((first | walk_at "go1" | (with_reducible refine go_st fun _ _ => ?_) | (with_reducible apply goN; (· assumption))); walk_at "wh")))
theorem goR_inK {ad : Addr} {kvs : List (Str × D)} {f : Bool → Bool} {z : Str} {b : Bool} {Q : D → Prop} (e : (kvs.lookup z).isSome = b) (h : Q (.bl (f b))) : inK ad kvs f (.str z) (.opq (.ref ad)) Q := ⟨rfl, by rw [e]; exact h⟩
theorem goR_ixK {ad : Addr} {kvs : List (Str × D)} {z : Str} {d : D} {Q : D → Prop} (e : kvs.lookup z = some d) (h : Q d) : ixK ad kvs (.opq (.ref ad)) (.str z) Q := ⟨rfl, by rw [e]; exact h⟩
local macro_rules | `(tactic| walk_at "call") => `(tactic| first | ((with_reducible apply goR_inK); (· exact rfl)) | ((with_reducible apply goR_ixK); (· exact rfl)))
end LW
set_option Elab.async false
set_option linter.all false
set_option maxRecDepth 100000
set_option maxHeartbeats 4000000
namespace EV
open PySem PySem.Spec PyProof.Rows L2
end EV
set_option Elab.async false
set_option linter.all false
set_option maxRecDepth 100000
set_option maxHeartbeats 4000000
namespace EV
open PySem PySem.Spec PyProof.Rows L2
def vN {α : Type} (L : List (NestedKey × α)) (k : NestedKey) : Option α := (L.find? fun x => decide (x.1 = k)).map (·.2)
def pN {α : Type} (g : α → α) (L : List (NestedKey × α)) (k : NestedKey) (v : α) : List (NestedKey × α) :=
  if (vN L k).isSome = true then L.map (fun x => if x.1 = k then (x.1, g x.2) else x) else L ++ [(k, v)]
/-- d[k] = v, in the rows -/
def putL (L : SN.Ld) (k : NestedKey) (a : Addr) (v : V) : SN.Ld := pN (fun q => (q.1, v)) L k (a, v)
end EV
set_option Elab.async false
set_option linter.all false
set_option maxRecDepth 100000
set_option maxHeartbeats 4000000
namespace EV
open PySem PySem.Spec PyProof.Rows L2
section
variable {K : PySem.W.Frag} {G : Hp}
theorem RpN.length : ∀ {L : SN.Ld} {ds : List (NestedKey × D)}, RpN K G L ds → L.length = ds.length
  | _, _, .nil => rfl
  | _, _, .cons h r t => congrArg (· + 1) (RpN.length t)
theorem RpN.val {k : NestedKey} : ∀ {L : SN.Ld} {ds : List (NestedKey × D)}, RpN K G L ds → (∀ d, vN ds k = some d → ∃ v, (vN L k).map (·.2) = some v ∧ Rp K G v d) ∧ (vN ds k = none → vN L k = none)
  | _, _, .nil => ⟨fun d e => (nomatch e), fun _ => rfl⟩
  | _, _, .cons (k := j) (a := a) (v := v) (d := d0) (L := L) (ds := ds) h r t => by
    by_cases e : j = k
    · have h1 : vN ((j, d0) :: ds) k = some d0 := by simp [vN, List.find?_cons, e]
      have h2 : vN ((j, a, v) :: L) k = some (a, v) := by simp [vN, List.find?_cons, e]
      rw [h1, h2]
      exact ⟨fun d z => by cases z; exact ⟨v, rfl, r⟩, fun z => by cases z⟩
    · have h1 : vN ((j, d0) :: ds) k = vN ds k := by simp [vN, List.find?_cons, e]
      have h2 : vN ((j, a, v) :: L) k = vN L k := by simp [vN, List.find?_cons, e]
      rw [h1, h2]
      exact RpN.val t
theorem RpN.some {k : NestedKey} {L : SN.Ld} {ds : List (NestedKey × D)} (t : RpN K G L ds) : (vN L k).isSome = (vN ds k).isSome := by
  have h := t.val (k := k)
  cases e : vN ds k with
  | none => rw [h.2 e]; rfl
  | some d =>
    obtain ⟨v, ev, _⟩ := h.1 d e
    cases e2 : vN L k with
    | none => rw [e2] at ev; cases ev
    | some _ => rfl
theorem RpN.app : ∀ {L L' : SN.Ld} {ds ds' : List (NestedKey × D)}, RpN K G L ds → RpN K G L' ds' → RpN K G (L ++ L') (ds ++ ds')
  | _, _, _, _, .nil, s => s
  | _, _, _, _, .cons h r t, s => .cons h r (RpN.app t s)
theorem RpN.mapv {k : NestedKey} {v : V} {d : D} (r : Rp K G v d) : ∀ {L : SN.Ld} {ds : List (NestedKey × D)}, RpN K G L ds → RpN K G (L.map (fun x => if x.1 = k then (x.1, (x.2.1, v)) else x)) (ds.map (fun x => if x.1 = k then (x.1, d) else x))
  | _, _, .nil => .nil
  | _, _, .cons (k := j) h r0 t => by
    simp only [List.map_cons]
    by_cases e : j = k
    · simp only [if_pos e]; exact .cons h r (RpN.mapv r t)
    · simp only [if_neg e]; exact .cons h r0 (RpN.mapv r t)
theorem RpN.put {k : NestedKey} {b : Addr} {v : V} {d : D} {L : SN.Ld} {ds : List (NestedKey × D)} (hb : KeyG K G k b) (r : Rp K G v d) (t : RpN K G L ds) : RpN K G (putL L k b v) (pN (fun _ => d) ds k d) := by
  unfold putL pN
  rw [t.some]
  split
  · exact RpN.mapv r t
  · exact t.app (.cons hb r .nil)
end
end EV
set_option Elab.async false
set_option linter.all false
set_option maxRecDepth 100000
set_option maxHeartbeats 4000000
namespace EV
open PySem PySem.Spec PyProof.Rows L2
end EV
set_option Elab.async false
set_option linter.all false
set_option maxRecDepth 100000
set_option maxHeartbeats 4000000
namespace PySem
namespace XO
open PySem.W PySem.Calls PyProof.Rows PySem.HandSPX L2
structure SaysS (fa : List He.Fa) (fn : List He.DefD) (ts : List He.Tab) (ins : List IniD) (tf : List He.Defn) (ex : Frag → Bool) (sm : List He5.DefA) (w : World) (h : Heap) (K : Frag) : Prop where
  j : SaysJ fa fn ts ins tf ex w h K
  s : (sm.map fun d => He5.fnA K (d.at_ K)) = sm.map He5.DefA.val
theorem SaysS.def_ {fa : List He.Fa} {fn : List He.DefD} {ts : List He.Tab} {ins : List IniD} {tf : List He.Defn} {ex : Frag → Bool} {sm : List He5.DefA} {w : World} {h : Heap} {K : Frag} (c : SaysS fa fn ts ins tf ex sm w h K) (i : Nat) {d : He5.DefA} (hi : sm[i]? = some d) (ok : d.ok K = true) :
    ∃ fd, L2.FunD K d.name d.qual d.params d.body d.scope (d.dvs K) (d.kws K) (d.at_ K) fd := by
  have e2 : (sm.map fun d => He5.fnA K (d.at_ K))[i]? = (sm.map He5.DefA.val)[i]? := by rw [c.s]
  rw [List.getElem?_map, List.getElem?_map, hi] at e2
  exact He5.DefA.funD (Option.some.inj e2) ok
end XO
end PySem
set_option Elab.async false
set_option linter.all false
set_option maxRecDepth 100000
set_option maxHeartbeats 4000000
namespace EV
open PySem PySem.Spec PyProof.Rows L2 PySem.XO
end EV
set_option Elab.async false
set_option linter.all false
set_option maxRecDepth 100000
set_option maxHeartbeats 4000000
namespace EV
open PySem PySem.Spec PyProof.Rows L2 PySem.XO
end EV
set_option Elab.async false
set_option linter.all false
set_option maxRecDepth 100000
set_option maxHeartbeats 4000000
namespace L2
open PySem PySem.Spec PyProof.Rows PySem.XO
end L2
namespace EV
open PySem PySem.Spec PyProof.Rows L2 PySem.XO
end EV
namespace L2
open PySem PySem.Spec PyProof.Rows PySem.XO
end L2
namespace EV
open PySem PySem.Spec PyProof.Rows L2 PySem.XO
section
variable {P : Program} {w : World} {K : PySem.W.Frag} {mg : Str → Option Value} {base : Heap}
/-- a def that raises nothing and may leave things of its own behind -/
theorem fn_pureF {x qual : Str} {st : Stmt} {f : Addr} {fd : FuncData} {N ps : List Str} {k : Nat} {sp : DSp} {ms : DS} (Fn : Fun K x qual st f fd) (S : FnScope N ps (defScope st)) (len : ∀ ds O Q E, sp ds O Q E → ds.length = ps.length)
    (hb : ∀ (cdv : Value) (A : Around) (outer : List Env) (s : Shared) (H : Hp) (E : XK), Room k (A.deeper (envOfC qual (defScope st) s.heap.objs.size f cdv)) →
      DPSs (cxOf CX0 P w K mg base N qual (defScope st) f cdv A outer s H E).nox ⟨bo0, fun _ _ _ _ => False⟩ (defBody st) ms)
    (h : ∀ ds O Q E, sp ds O Q E → ms (endsD (frg Q) E) (startD N ds) O) (noex : ∀ ds O Q E, sp ds O Q E → sp ds O Q fun _ _ => False) : FnOk P w K mg base CX0 (k + 1) f fd ps (spD K sp) := by
  refine Fn.ok S (fun vs H Q E ⟨G, O, ds, g, r, Q0, E0, h0, _⟩ => ?_) (fun cdv A outer s H vs Q E hr ⟨G, O, ds, g, r, Q0, E0, h0, hq, hx⟩ => ?_)
  · rw [r.length]; exact len _ _ _ _ h0
  · have b := hb cdv A outer s H E hr
    refine ⟨_, b.run, G, O, startD N ds, g, start_rp r, b.mo (endsD (frg Q0) fun _ _ => False) _ _ _ ⟨fun ρ O1 z σ' G' H' s _ => kv.frg (frg_mo hq z) _ G' H' s .non, fun d O1 z v G' H' s rv => kv.frg (frg_mo hq z) v G' H' s rv, fun _ _ z => z.elim, fun _ _ z => z.elim, fun x ρ _ z => z.elim⟩ (h ds O Q0 (fun _ _ => False) (noex _ _ _ _ h0))⟩
end
end EV
set_option Elab.async false
set_option linter.all false
set_option maxRecDepth 100000
set_option maxHeartbeats 4000000
namespace EV
open PySem PySem.Spec PyProof.Rows L2
end EV
set_option Elab.async false
set_option linter.all false
set_option maxRecDepth 100000
set_option maxHeartbeats 4000000
namespace EV
open PySem PySem.Spec PyProof.Rows L2
end EV
set_option Elab.async false
set_option linter.all false
set_option maxRecDepth 100000
set_option maxHeartbeats 4000000
namespace EV
open PySem PySem.Spec PyProof.Rows L2
end EV
set_option Elab.async false
set_option linter.all false
set_option maxRecDepth 100000
set_option maxHeartbeats 4000000
namespace EV
open PySem PySem.Spec PyProof.Rows L2
end EV
set_option Elab.async false
set_option linter.all false
set_option maxRecDepth 100000
set_option maxHeartbeats 4000000
namespace EV
open PySem PySem.Spec PyProof.Rows L2
section
variable {K : PySem.W.Frag} {B : Bo} {I : Ow → Prop}
def rngC (lo c : Int) (n : Nat) : List D := (List.range n).map fun (i : Nat) => .int (lo + (i : Int) * c)
theorem itd_rngC {lo c : Int} {n : Nat} {G0 : Hp} : ItD K B G0 (Itc lo c n) (I, rngC lo c n) := fun i O G H g sb _ => by
  have hl : (rngC lo c n).length = n := by simp [rngC]
  refine ⟨fun d e => ?_, fun (h : i = (rngC lo c n).length) => by rw [hl] at h; exact Nat.le_of_eq h.symm⟩
  have hi : i < n := by rw [← hl]; exact getElem?_lt e
  refine ⟨hi, fun x H' q => ?_⟩
  obtain ⟨rfl, rfl⟩ := q
  have e2 : (rngC lo c n)[i]? = some (.int (lo + (i : Int) * c)) := by
    simp only [rngC, List.getElem?_map, List.getElem?_range hi, Option.map_some]
  have e : (rngC lo c n)[i]? = some d := e
  rw [e2] at e
  cases e
  exact ⟨G, Step.refl g, .int _⟩
end
section
variable {X : Cx} {L : Pl}
abbrev rng3D : List D → (IL → Prop) → Prop
  | [.int i, .int j, .int c], Q => ∃ n, RgC i j c n ∧ Q (tt1, rngC i c n)
  | _, _ => False
theorem rng3D_mo {x : List D} {Q Q' : IL → Prop} (h : ∀ d, Q d → Q' d) (z : rng3D x Q) : rng3D x Q' := by
  unfold rng3D at z ⊢
  split at z
  · obtain ⟨n, a, b⟩ := z; exact ⟨n, a, h _ b⟩
  · exact z
abbrev dRng3 (mA : DA) : DI := fun ρ O Q E => mA ρ O (fun xs O1 => rng3D xs fun l => Q l O1) E
theorem d_rng3 {a b c tg : Expr} {p pos : Pos} {mA : DA} (hg : Gl X "range") (hm : X.mg "range" = none) (ha : DPA X L [a, b, c] mA) (hs : starEach [a, b, c] X.env = (false, eval a X.env) :: starEach [b, c] X.env) (hpl : (backTo pos (starEach [b, c] X.env)).any (·.1) = false) :
    DPI X L tg (.Call (.Name "range" p) [a, b, c] [] pos) (dRng3 mA) := by
  refine ⟨fun ρ O Q Q' E E' q hx x => ha.mo ρ _ _ _ _ _ (fun _ _ z => rng3D_mo (fun _ => q _ _) z) hx x, pi_imp (pi_range3 hg hm ha.run hs hpl) fun σ H Q ⟨G, O, ρ, g, rs, q⟩ => ?_⟩
  refine upA_of ha.mo g rs q fun xs vs O1 G1 H1 q1 s1 r1 => ?_
  unfold rng3D at q1
  split at q1
  · cases r1 with
    | cons r2 r3 =>
      cases r3 with
      | cons r4 r5 =>
        cases r5 with
        | cons r6 r7 =>
          cases r7
          cases r6
          cases r4
          cases r2
          obtain ⟨n, e, q1⟩ := q1
          exact ⟨_, _, _, n, rfl, e, q1 _ _ _ s1 itd_rngC⟩
  · exact q1.elim
end
end EV
set_option Elab.async false
set_option linter.all false
set_option maxRecDepth 100000
set_option maxHeartbeats 4000000
namespace EV
open PySem PySem.Spec PyProof.Rows L2
end EV
set_option Elab.async false
set_option linter.all false
set_option maxRecDepth 100000
set_option maxHeartbeats 4000000
namespace EV
open PySem PySem.Spec PyProof.Rows L2
/-- fields that hold lists are told as bare values -/
inductive HidF : List (Str × D) → List (Str × D) → Prop
  | nil : HidF [] []
  | keep {x : Str} {d : D} {r r' : List (Str × D)} : noL d = true → HidF r r' → HidF ((x, d) :: r) ((x, d) :: r')
  | hide {x : Str} {d : D} {v : V} {r r' : List (Str × D)} : noL d = false → HidF r r' → HidF ((x, d) :: r) ((x, .opq v) :: r')
inductive HidR (K : PySem.W.Frag) (G : Hp) : List (Str × D) → List (Str × D) → Prop
  | nil : HidR K G [] []
  | keep {x : Str} {d : D} {r r' : List (Str × D)} : noL d = true → HidR K G r r' → HidR K G ((x, d) :: r) ((x, d) :: r')
  | hide {x : Str} {d : D} {v : V} {r r' : List (Str × D)} : noL d = false → Rp K G v d → HidR K G r r' → HidR K G ((x, d) :: r) ((x, .opq v) :: r')
theorem HidR.f {K : PySem.W.Frag} {G : Hp} {fs fs' : List (Str × D)} (h : HidR K G fs fs') : HidF fs fs' := by
  induction h with
  | nil => exact .nil
  | keep h _ ih => exact .keep h ih
  | hide h _ _ ih => exact .hide h ih
theorem hid_of {K : PySem.W.Frag} {G : Hp} : ∀ {fs : List (Str × D)} {vs : List (Str × V)}, RpF K G vs fs → ∃ fs', HidR K G fs fs' ∧ RpF K G vs fs'
  | [], _, .nil => ⟨[], .nil, .nil⟩
  | (x, d) :: r, _, .cons h t => by
    obtain ⟨r', a, b⟩ := hid_of t
    cases e : noL d with
    | true => exact ⟨(x, d) :: r', .keep e a, .cons h b⟩
    | false => exact ⟨(x, .opq _) :: r', .hide e h a, .cons (.opq _) b⟩
def hidable : D → Bool
  | .ins _ _ => true
  | d => nlO d
end EV
set_option Elab.async false
set_option linter.all false
set_option maxRecDepth 100000
set_option maxHeartbeats 4000000
namespace EV
open PySem PySem.Spec PyProof.Rows L2
def odelL (O : Ow) (S : List Addr) : Ow := fun a => if a ∈ S then none else O a
def gdelL (G : Hp) (S : List Addr) : Hp := fun a => if a ∈ S then none else G a
theorem odelL_in {O : Ow} {S : List Addr} {a : Addr} (h : a ∈ S) : odelL O S a = none := by unfold odelL; rw [if_pos h]
theorem odelL_out {O : Ow} {S : List Addr} {a : Addr} (h : a ∉ S) : odelL O S a = O a := by unfold odelL; rw [if_neg h]
theorem gdelL_in {O : Hp} {S : List Addr} {a : Addr} (h : a ∈ S) : gdelL O S a = none := by unfold gdelL; rw [if_pos h]
theorem gdelL_out {O : Hp} {S : List Addr} {a : Addr} (h : a ∉ S) : gdelL O S a = O a := by unfold gdelL; rw [if_neg h]
theorem odelL_cons {O : Ow} {p : Addr} {S : List Addr} : odelL (odel O p) S = odelL O (p :: S) := by
  funext a
  unfold odelL odel
  by_cases h : a = p
  · subst h; simp
  · by_cases h2 : a ∈ S <;> simp [h, h2]
/-- lists of one's own, held by one at f -/
structure Deep (O : Ow) (f : Addr) (l : List (Addr × List D)) : Prop where
  hd : O f = some (.lst (l.map fun x => .opq (.ref x.1)))
  nd : (l.map (·.1)).Nodup
  nf : f ∉ l.map (·.1)
  o : ∀ x ∈ l, O x.1 = some (.lst x.2)
abbrev deepD (l : List (Addr × List D)) : D := .lst (l.map fun x => .lst x.2)
abbrev deepA (f : Addr) (l : List (Addr × List D)) : List Addr := f :: l.map (·.1)
section
variable {K : PySem.W.Frag} {B : Bo}
theorem freeze_all {H : Hp} : ∀ (l : List (Addr × List D)) {O : Ow} {G : Hp}, Good K B O G H → (l.map (·.1)).Nodup → (∀ x ∈ l, O x.1 = some (.lst x.2)) → ∃ G1, Step K B O G H (odelL O (l.map (·.1))) G1 H ∧ RpL K G1 (l.map fun x => V.ref x.1) (l.map fun x => .lst x.2)
  | [], O, G, g, _, _ => ⟨G, by
      have : odelL O ([] : List Addr) = O := by funext a; exact odelL_out List.not_mem_nil
      rw [List.map_nil, this]; exact Step.refl g, .nil⟩
  | x :: l, O, G, g, nd, ho => by
    rw [List.map_cons, List.nodup_cons] at nd
    obtain ⟨G1, s1, rp⟩ := Step.freeze g (fun ks => by intro e; cases e) (ho x List.mem_cons_self)
    have ho2 : ∀ y ∈ l, (odel O x.1) y.1 = some (.lst y.2) := fun y hy => by
      have : y.1 ≠ x.1 := fun e => nd.1 (by rw [← e]; exact List.mem_map_of_mem hy)
      rw [odel_ne this]; exact ho y (List.mem_cons_of_mem _ hy)
    obtain ⟨G2, s2, r2⟩ := freeze_all l s1.good nd.2 ho2
    rw [odelL_cons] at s2
    exact ⟨G2, s1.trans s2, .cons (rp.mono s2.grow) r2⟩
theorem refs_of {G : Hp} : ∀ {l : List (Addr × List D)} {vs : List V}, RpL K G vs (l.map fun x => D.opq (.ref x.1)) → vs = l.map fun x => V.ref x.1
  | [], _, .nil => rfl
  | x :: l, _, .cons h r => by
    cases h
    rw [List.map_cons, refs_of r]
theorem freeze_deep {O : Ow} {G H : Hp} {f : Addr} {l : List (Addr × List D)} (g : Good K B O G H) (h : Deep O f l) : ∃ G2, Step K B O G H (odelL O (deepA f l)) G2 H ∧ Rp K G2 (.ref f) (deepD l) := by
  obtain ⟨G1, s1, r1⟩ := freeze_all l g h.nd h.o
  obtain ⟨nG, nb, vs, hf, hv⟩ := g.own f _ h.hd
  have ev := refs_of hv
  subst ev
  have of1 : (odelL O (l.map (·.1))) f = some (.lst (l.map fun x => .opq (.ref x.1))) := by rw [odelL_out h.nf]; exact h.hd
  obtain ⟨nG1, _, _⟩ := s1.good.own f _ of1
  -- the same, told more closely
  have g2 : Good K B (oset (odelL O (l.map (·.1))) f (deepD l)) G1 H := by
    refine ⟨s1.good.sub, s1.good.box, s1.good.amb, fun q d e => ?_⟩
    by_cases z : q = f
    · subst z
      rw [oset_same] at e; cases e
      exact ⟨nG1, nb, _, hf, r1⟩
    · rw [oset_ne z] at e; exact s1.good.own q d e
  have s2 : Step K B (odelL O (l.map (·.1))) G1 H (oset (odelL O (l.map (·.1))) f (deepD l)) G1 H :=
    ⟨Sub.refl _, g2, fun _ _ h _ _ => h, fun a o ha z n => ⟨z, by
      have : a ≠ f := fun e => by rw [e, of1] at n; cases n
      rw [oset_ne this]; exact n⟩, fun _ h => h⟩
  obtain ⟨G2, s3, rp⟩ := Step.freeze g2 (fun ks => by intro e; cases e) oset_same
  have eo : odel (oset (odelL O (l.map (·.1))) f (deepD l)) f = odelL O (deepA f l) := by
    funext a
    unfold odel odelL oset
    by_cases z : a = f
    · subst z; simp
    · simp only [z, if_false, List.mem_cons, false_or]
  rw [eo] at s3
  exact ⟨G2, (s1.trans s2).trans s3, rp⟩
end
section
variable {X : Cx} {L : Pl}
abbrev dFrzD (m : DE) : DE := fun ρ O Q E => m ρ O (fun d O1 => ∃ f l, d = .opq (.ref f) ∧ Deep O1 f l ∧ Q (deepD l) (odelL O1 (deepA f l))) E
theorem d_frzD (h : DPE X L e m) : DPE X L e (dFrzD m) := by
  refine ⟨fun ρ O Q Q' E E' q hx x => h.mo ρ _ _ _ _ _ (fun _ _ ⟨p, y, e, o, z⟩ => ⟨p, y, e, o, q _ _ z⟩) hx x, pe_imp h.run fun σ H Q ⟨G, O, ρ, g, rs, q⟩ => ?_⟩
  refine up_of h.mo g rs q fun d v O1 G1 H1 q1 s1 r1 => ?_
  obtain ⟨f, l, rfl, hd, q1⟩ := q1
  cases r1
  obtain ⟨G', s, rp⟩ := freeze_deep s1.good hd
  exact q1 _ G' _ (s1.trans s) rp
end
section
variable {K : PySem.W.Frag} {G : Hp} {S : List Addr}
mutual
theorem Rp.delS (hp : ∀ a ∈ S, ∃ l, G a = some (.lst l)) : ∀ {d : D} {v : V}, noL d = true → Rp K G v d → Rp K (gdelL G S) v d
  | .non, _, _, .non => .non
  | .bl _, _, _, .bl b => .bl b
  | .int _, _, _, .int i => .int i
  | .str _, _, _, .str x => .str x
  | .opq _, _, _, .opq v => .opq v
  | .lst _, _, n, .lst h r => by simp [noL] at n
  | .exc _ _, _, n, .exc h x q r => by simp [noL] at n
  | .lam _, _, n, .lam h q r => by simp [noL] at n
  | .nk _ _ _, _, n, .nk h => by simp [noL] at n
  | .tup ds, _, n, .tup h r => by
    rw [noL] at n
    refine .tup ?_ (RpL.delS hp n r)
    have key : ∀ {a : Addr} {o : HO}, G a = some o → (∀ l, o ≠ .lst l) → gdelL G S a = some o := fun {a o} h hn => by
      rw [gdelL_out (fun z => by obtain ⟨l, e⟩ := hp a z; rw [e] at h; cases h; exact hn l rfl)]; exact h
    rcases h with h | h
    · rcases h with h | ⟨o, h⟩
      · exact .inl (.inl (key h fun l e => by cases e))
      · exact .inl (.inr ⟨o, key h fun l e => by cases e⟩)
    · exact .inr h
  | .dic ks, _, n, .dic h r => by
    rw [noL] at n
    exact .dic (by rw [gdelL_out (fun z => by obtain ⟨l, e⟩ := hp _ z; rw [e] at h; cases h)]; exact h) (RpK.delS hp n r)
  | .ins _ fs, _, n, .ins h r => by
    rw [noL] at n
    exact .ins (by rw [gdelL_out (fun z => by obtain ⟨l, e⟩ := hp _ z; rw [e] at h; cases h)]; exact h) (RpF.delS hp n r)
theorem RpL.delS (hp : ∀ a ∈ S, ∃ l, G a = some (.lst l)) : ∀ {ds : List D} {vs : List V}, noLs ds = true → RpL K G vs ds → RpL K (gdelL G S) vs ds
  | [], _, _, .nil => .nil
  | _ :: _, _, n, .cons h r => by
    rw [noLs, Bool.and_eq_true] at n
    exact .cons (Rp.delS hp n.1 h) (RpL.delS hp n.2 r)
theorem RpK.delS (hp : ∀ a ∈ S, ∃ l, G a = some (.lst l)) : ∀ {ds : List (Key × D)} {vs : List (Key × V)}, noLk ds = true → RpK K G vs ds → RpK K (gdelL G S) vs ds
  | [], _, _, .nil => .nil
  | _ :: _, _, n, .cons h r => by
    rw [noLk, Bool.and_eq_true] at n
    exact .cons (Rp.delS hp n.1 h) (RpK.delS hp n.2 r)
theorem RpF.delS (hp : ∀ a ∈ S, ∃ l, G a = some (.lst l)) : ∀ {ds : List (Str × D)} {vs : List (Str × V)}, noLf ds = true → RpF K G vs ds → RpF K (gdelL G S) vs ds
  | [], _, _, .nil => .nil
  | _ :: _, _, n, .cons h r => by
    rw [noLf, Bool.and_eq_true] at n
    exact .cons (Rp.delS hp n.1 h) (RpF.delS hp n.2 r)
end
end
theorem hid_backS {K : PySem.W.Frag} {G G' : Hp} {S : List Addr} (hq : ∀ a ∈ S, ∃ l, G' a = some (.lst l)) (gr : Sub G (gdelL G' S)) {fs fs' : List (Str × D)} (h : HidR K G fs fs') : ∀ {vs : List (Str × V)}, RpF K G' vs fs' → RpF K (gdelL G' S) vs fs := by
  induction h with
  | nil => intro vs r; cases r; exact .nil
  | keep h _ ih =>
    intro vs r
    cases r with
    | cons a b => exact .cons (a.delS hq h) (ih b)
  | hide h hr _ ih =>
    intro vs r
    cases r with
    | cons a b =>
      cases a
      exact .cons (hr.mono gr) (ih b)
theorem RpO.delS {K : PySem.W.Frag} {G H : Hp} {S : List Addr} {q : Addr} (hp : ∀ a ∈ S, ∃ l, G a = some (.lst l)) : ∀ {d : D}, nlO d = true → RpO K G H q d → RpO K (gdelL G S) H q d
  | .lst _, n, ⟨vs, h, r⟩ => ⟨vs, h, r.delS hp n⟩
  | .dic _, n, ⟨vs, h, r⟩ => ⟨vs, h, r.delS hp n⟩
  | .ins _ _, n, ⟨dx, fs, h, r⟩ => ⟨dx, fs, h, r.delS hp n⟩
def HidS (S : List Addr) (O Oh : Ow) : Prop := ∀ q, (q ∈ S → Oh q = none) ∧ (q ∉ S → match O q with
  | none => Oh q = none
  | some (.ins C fs) => ∃ fs', Oh q = some (.ins C fs') ∧ HidF fs fs'
  | some d => Oh q = some d)
def HidP (K : PySem.W.Frag) (G : Hp) (S : List Addr) (O Oh : Ow) (q : Addr) : Prop := (q ∈ S → Oh q = none) ∧ (O q = none → Oh q = none) ∧ (∀ C fs, q ∉ S → O q = some (.ins C fs) → ∃ fs', Oh q = some (.ins C fs') ∧ HidR K G fs fs') ∧ (∀ d, q ∉ S → O q = some d → (∀ C fs, d ≠ .ins C fs) → Oh q = some d)
section
variable {K : PySem.W.Frag} {B : Bo} {O Oh : Ow} {G H G1 G' H' : Hp} {S : List Addr}
theorem Step.thawS (g : Good K B O G H) (s1 : Step K B O G H (odelL O S) G1 H) (hb : ∀ q d, q ∉ S → O q = some d → hidable d = true)
    (hS : ∀ q ∈ S, ∃ ds vs, O q = some (.lst ds) ∧ H q = some (.lst vs) ∧ RpL K G vs ds ∧ G' q = some (.lst vs))
    (ho : ∀ q, HidP K G S O Oh q) (s : Step K B Oh G1 H Oh G' H') : Step K B O G H O (gdelL G' S) H' := by
  have nG : ∀ a ∈ S, G a = none ∧ ¬ Hid B a := fun a ha => by
    obtain ⟨ds, vs, e, _⟩ := hS a ha
    obtain ⟨x, y, _⟩ := g.own a _ e
    exact ⟨x, y⟩
  have hq : ∀ a ∈ S, ∃ l, G' a = some (.lst l) := fun a ha => by
    obtain ⟨ds, vs, _, _, _, e⟩ := hS a ha
    exact ⟨_, e⟩
  have gr : Sub G (gdelL G' S) := fun a u h => by
    have z : a ∉ S := fun z => by rw [(nG a z).1] at h; cases h
    rw [gdelL_out z]; exact s.grow a u (s1.grow a u h)
  have sb : Sub (gdelL G' S) H' := fun a u h => by
    by_cases z : a ∈ S
    · rw [gdelL_in z] at h; cases h
    · rw [gdelL_out z] at h; exact s.good.sub a u h
  refine ⟨gr, ⟨sb, fun b l T eb => ?_, g.amb.trans gr, fun q d e => ?_⟩, fun a o h hb n => s.keep a o h hb ((ho a).2.1 n), fun a o h z n => ?_, s.still⟩
  · have b0 := g.box b l T eb
    have b1 := s.good.box b l T eb
    have hb : ∀ a, (a = b ∨ ∃ p ∈ T, a = p.1) → a ∉ S := fun a ha z => (nG a z).2 ⟨b, l, T, eb, ha⟩
    obtain ⟨_, ⟨ns, _, _, _, _, _, h3, _⟩, _, _⟩ := b0
    obtain ⟨k1, ⟨_, i, r, m, c, k2, _, k4⟩, k5, k6⟩ := b1
    refine ⟨?_, ⟨ns, i, r, m, c, k2, gr.sqL h3, k4⟩, fun x hx => ?_, fun x hx => ?_⟩
    · rw [gdelL_out (hb b (.inl rfl))]; exact k1
    · obtain ⟨ps, a1, a2, a3⟩ := k5 x hx
      refine ⟨ps, a1, a2, fun pos cv e => ?_⟩
      obtain ⟨y, e1, e2⟩ := a3 pos cv e
      refine ⟨y, e1, ?_⟩
      have z : y ∉ S := fun z => by obtain ⟨l, e⟩ := hq y z; rw [e] at e2; cases e2
      rw [gdelL_out z]; exact e2
    · rw [gdelL_out (hb x.1 (.inr ⟨x, hx, rfl⟩))]; exact k6 x hx
  · by_cases z : q ∈ S
    · obtain ⟨ds, vs, e1, e2, r, e3⟩ := hS q z
      rw [e1] at e; cases e
      exact ⟨gdelL_in z, (nG q z).2, vs, s.good.sub _ _ e3, r.mono gr⟩
    · by_cases hi : ∃ C fs, d = .ins C fs
      · obtain ⟨C, fs, rfl⟩ := hi
        obtain ⟨fs', e2, hr⟩ := (ho q).2.2.1 C fs z e
        obtain ⟨x1, x2, dx, fv, x3, x4⟩ := s.good.own q _ e2
        exact ⟨by rw [gdelL_out z]; exact x1, x2, dx, fv, x3, hid_backS hq gr hr x4⟩
      · have hi2 : ∀ C fs, d ≠ .ins C fs := fun C fs e => hi ⟨C, fs, e⟩
        have e2 := (ho q).2.2.2 d z e hi2
        obtain ⟨x1, x2, x3⟩ := s.good.own q d e2
        have hd := hb q d z e
        have hn : nlO d = true := by
          cases d <;> first | exact hd | exact absurd rfl (hi2 _ _)
        exact ⟨by rw [gdelL_out z]; exact x1, x2, x3.delS hq hn⟩
  · obtain ⟨h1, h2⟩ := s1.hid a o h z n
    obtain ⟨h3, _⟩ := s.hid a o h h1 ((ho a).2.1 n)
    have e : a ∉ S := fun e => by obtain ⟨ds, vs, e1, _⟩ := hS a e; rw [e1] at n; cases n
    exact ⟨by rw [gdelL_out e]; exact h3, n⟩
theorem good_hidS (g : Good K B O G H) (s1 : Step K B O G H (odelL O S) G1 H) (hS : ∀ q ∈ S, ∃ d, O q = some d) : ∃ Oh : Ow, HidS S O Oh ∧ Good K B Oh G1 H ∧ ∀ q, HidP K G S O Oh q := by
  have ex : ∀ q, ∃ oh : Option D, ((q ∈ S → oh = none) ∧ (q ∉ S → match O q with
      | none => oh = none
      | some (.ins C fs) => ∃ fs', oh = some (.ins C fs') ∧ HidF fs fs'
      | some d => oh = some d)) ∧ ((q ∈ S → oh = none) ∧ (O q = none → oh = none) ∧ (∀ C fs, q ∉ S → O q = some (.ins C fs) → ∃ fs', oh = some (.ins C fs') ∧ HidR K G fs fs') ∧ (∀ d, q ∉ S → O q = some d → (∀ C fs, d ≠ .ins C fs) → oh = some d)) ∧ (∀ d, oh = some d → RpO K G H q d) := fun q => by
    by_cases z : q ∈ S
    · refine ⟨none, ⟨fun _ => rfl, fun h => absurd z h⟩, ⟨fun _ => rfl, fun _ => rfl, fun _ _ h => absurd z h, fun _ h => absurd z h⟩, fun d h => by cases h⟩
    · cases e : O q with
      | none => exact ⟨none, ⟨fun h => absurd h z, fun _ => rfl⟩, ⟨fun _ => rfl, fun _ => rfl, fun _ _ _ h => (by cases h), fun _ _ h => (by cases h)⟩, fun d h => by cases h⟩
      | some d =>
        obtain ⟨_, _, r⟩ := g.own q d e
        by_cases hi : ∃ C fs, d = .ins C fs
        · obtain ⟨C, fs, rfl⟩ := hi
          obtain ⟨dx, fv, h1, h2⟩ := r
          obtain ⟨fs', a, b⟩ := hid_of h2
          refine ⟨some (.ins C fs'), ⟨fun h => absurd h z, fun _ => ⟨fs', rfl, a.f⟩⟩, ⟨fun h => absurd h z, (fun h => by cases h), fun C2 fs2 _ h => ?_, fun d _ h hn => ?_⟩, fun d h => ?_⟩
          · cases h; exact ⟨fs', rfl, a⟩
          · cases h; exact absurd rfl (hn _ _)
          · cases h; exact ⟨dx, fv, h1, b⟩
        · have hi2 : ∀ C fs, d ≠ .ins C fs := fun C fs e => hi ⟨C, fs, e⟩
          refine ⟨some d, ⟨fun h => absurd h z, fun _ => ?_⟩, ⟨fun h => absurd h z, (fun h => by cases h), fun C2 fs2 _ h => ?_, fun d2 _ h hn => h⟩, fun d2 h => ?_⟩
          · cases d <;> first | rfl | exact absurd rfl (hi2 _ _)
          · cases h; exact absurd rfl (hi2 _ _)
          · cases h; exact r
  obtain ⟨Oh, h⟩ := Classical.axiomOfChoice ex
  refine ⟨Oh, fun q => (h q).1, ⟨s1.good.sub, s1.good.box, s1.good.amb, fun q d e => ?_⟩, fun q => (h q).2.1⟩
  have zp : q ∉ S := fun z => by rw [(h q).2.1.1 z] at e; cases e
  cases eq : O q with
  | none => rw [(h q).2.1.2.1 eq] at e; cases e
  | some d0 =>
    obtain ⟨x1, x2, _⟩ := s1.good.own q d0 (by rw [odelL_out zp]; exact eq)
    exact ⟨x1, x2, ((h q).2.2 d e).mono s1.grow fun _ z => z⟩
end
section
variable {X : Cx} {L : Pl}
abbrev dThawD (i : Nat) (m : DE) : DE := fun ρ O Q _ => ∃ f l, ρ[i]? = some (.sh (.opq (.ref f))) ∧ Deep O f l ∧ (∀ q d, q ∉ deepA f l → O q = some d → hidable d = true) ∧ ∀ Oh, HidS (deepA f l) O Oh → m (ρ.set i (.sh (deepD l))) Oh (fun d O' => O' = Oh ∧ noL d = true ∧ Q d O) (fun _ _ => False)
theorem rows_vis {K : PySem.W.Frag} {G : Hp} : ∀ {l : List (Addr × List D)}, RpL K G (l.map fun x => V.ref x.1) (l.map fun x => D.lst x.2) → ∀ x ∈ l, ∃ vs, G x.1 = some (.lst vs)
  | [], _, x, h => by cases h
  | y :: l, .cons a r, x, h => by
    rcases List.mem_cons.mp h with rfl | h
    · cases a with
      | lst e _ => exact ⟨_, e⟩
    · exact rows_vis r x h
theorem d_thawD {i : Nat} {e : Expr} {m : DE} (h : DPE X L e m) : DPE X L e (dThawD i m) := by
  refine ⟨fun ρ O Q Q' E E' q _ ⟨f, l, a, b, c, z⟩ => ⟨f, l, a, b, c, fun Oh ho => h.mo _ _ _ _ _ _ (fun d _ y => ⟨y.1, y.2.1, q _ _ y.2.2⟩) (fun _ _ y => y) (z Oh ho)⟩, pe_imp h.run fun σ H Q ⟨G, O, ρ, g, rs, f, l, a, b, c, z⟩ => ?_⟩
  obtain ⟨G1, s1, rp⟩ := freeze_deep g b
  obtain ⟨v0, ev, rv⟩ := rs.sh i _ a
  cases rv
  have hv : ∀ q ∈ deepA f l, ∃ ds vs, O q = some (.lst ds) ∧ H q = some (.lst vs) ∧ RpL X.K G vs ds ∧ G1 q = some (.lst vs) := fun q hq => by
    have o1 : ∃ ds, O q = some (.lst ds) := by
      rcases List.mem_cons.mp hq with rfl | hq
      · exact ⟨_, b.hd⟩
      · obtain ⟨x, hx, rfl⟩ := List.mem_map.mp hq
        exact ⟨_, b.o x hx⟩
    obtain ⟨ds, o1⟩ := o1
    obtain ⟨_, _, vs, hH, r⟩ := g.own q _ o1
    have g1 : ∃ vs, G1 q = some (.lst vs) := by
      cases rp with
      | lst e1 r1 =>
        rcases List.mem_cons.mp hq with rfl | hq
        · exact ⟨_, e1⟩
        · obtain ⟨x, hx, rfl⟩ := List.mem_map.mp hq
          obtain ⟨_, _, vf, hf, hr⟩ := g.own f _ b.hd
          have ev := refs_of hr
          have := s1.good.sub _ _ e1
          rw [hf] at this
          cases this
          rw [ev] at r1
          exact rows_vis r1 x hx
    obtain ⟨vs', g1⟩ := g1
    have := s1.good.sub _ _ g1
    rw [hH] at this
    cases this
    exact ⟨ds, vs, o1, hH, r, g1⟩
  have rs2 : RpS X.K G1 σ (ρ.set i (.sh (deepD l))) := by
    refine ⟨by rw [List.length_set]; exact rs.len, fun j d ej => ?_⟩
    by_cases ij : i = j
    · subst ij
      have hl : i < ρ.length := by
        rcases Nat.lt_or_ge i ρ.length with h | h
        · exact h
        · rw [List.getElem?_eq_none h] at a; cases a
      rw [List.getElem?_set_self hl] at ej
      cases ej
      exact ⟨_, ev, rp⟩
    · rw [List.getElem?_set_ne ij] at ej
      obtain ⟨v, e1, e2⟩ := rs.sh j d ej
      exact ⟨v, e1, e2.mono s1.grow⟩
  obtain ⟨Oh, h1, h2, h3⟩ := good_hidS g s1 fun q hq => by
    obtain ⟨ds, vs, e, _⟩ := hv q hq
    exact ⟨_, e⟩
  refine ⟨G1, Oh, _, h2, rs2, h.mo _ _ _ _ _ _ (fun d O' y v G' H' st rv => ?_) (fun _ _ y => y.elim) (z Oh h1)⟩
  obtain ⟨rfl, nl, y⟩ := y
  have hS : ∀ q ∈ deepA f l, ∃ ds vs, O q = some (.lst ds) ∧ H q = some (.lst vs) ∧ RpL X.K G vs ds ∧ G' q = some (.lst vs) := fun q hq => by
    obtain ⟨ds, vs, e1, e2, r, e3⟩ := hv q hq
    exact ⟨ds, vs, e1, e2, r, st.grow _ _ e3⟩
  exact y v _ _ (Step.thawS g s1 c hS h3 st) (rv.delS (fun q hq => by
    obtain ⟨_, vs, _, _, _, e3⟩ := hS q hq
    exact ⟨vs, e3⟩) nl)
end
end EV
set_option Elab.async false
set_option linter.all false
set_option maxRecDepth 100000
set_option maxHeartbeats 4000000
namespace EV
open PySem PySem.Spec PyProof.Rows L2
def sortDI : DC := fun O xs Q => match xs with
  | [x] => (match lk O x with
    | .dic kds => ∃ ks : List Int, kds.map (·.1) = ks.map Sum.inl ∧ ks.length < 64 ∧ ∀ ys : List Int, ys.Perm ks → ys.Pairwise (· ≤ ·) → Q (.lst (ys.map D.int))
    | _ => False)
  | _ => False
theorem ints_rp {K : PySem.W.Frag} {G : Hp} : ∀ ss : List Int, RpL K G (ss.map V.int) (ss.map D.int)
  | [] => .nil
  | s :: ss => .cons (.int s) (ints_rp ss)
theorem cd_sortDI {X : Cx} {B : Bo} (hc : X.calm = true) : CallD X B (.builtin "sorted") sortDI := by
  refine ⟨fun O x Q Q' q z => ?_, _, call_sortedDI hc, fun O G H vs ds Q g r h => ?_⟩
  · unfold sortDI at z ⊢
    split at z
    · split at z
      · obtain ⟨ss, e, l, z⟩ := z; exact ⟨ss, e, l, fun ys h1 h2 => q _ (z ys h1 h2)⟩
      · exact z
    · exact z
  · unfold sortDI at h
    split at h
    · rename_i x
      split at h
      · rename_i kds e
        obtain ⟨ss, ek, l, h⟩ := h
        obtain ⟨a, kvs, rfl, hr, rk⟩ := dic_of g r e
        exact ⟨a, kvs, ss, rfl, hr, by rw [rk.fst]; exact ek, l, fun zs p hp hs n => h zs hp hs _ _ _ (Step.new g n) (new_lst g n (ints_rp _))⟩
      · exact h.elim
    · exact h.elim
end EV
set_option Elab.async false
set_option linter.all false
set_option maxRecDepth 100000
set_option maxHeartbeats 4000000
set_option pp.maxSteps 900
namespace LW
open PySem PySem.Spec PyProof.Rows L2 EV PySem.XO PySem.W LamX
local macro_rules | `(tactic| walk_at "fd") => `(tactic| first | assumption | rfl)
local macro_rules | `(tactic| walk_at "ow") => `(tactic| first | assumption | exact oset_self | (rw [oset_ne (by assumption)]; walk_at "ow") | (rw [oset_ne (Ne.symm (by assumption))]; walk_at "ow"))
local macro_rules | `(tactic| walk_at "ix") => `(tactic| first | exact EV.ga0 | exact EV.ga1 | exact EV.ga2 | exact EV.ga3 | exact EV.ga4 | exact EV.ga5 | exact EV.ga6 | exact EV.ga7 | exact EV.ga8 | exact EV.ga9 | exact EV.ga10 | exact EV.ga11 | exact EV.ga12 | exact EV.ga13 | exact EV.ga14 | exact EV.ga15 | assumption | rfl)
local macro_rules | `(tactic| walk_at "sz") => `(tactic| first | exact trivial | (with_reducible assumption) | omega | ((with_reducible refine szR ?_); exact rfl) | ((with_reducible refine szk' ?_); omega) | ((with_reducible refine szl ?_); omega) | exact szlt rfl | rfl | exact ⟨rfl, by assumption⟩ | exact ⟨rfl, rfl⟩ | exact ⟨_, rfl⟩ | ((with_reducible refine szk' ?_); simp only [List.length_cons, List.length_nil, List.length_append, List.length_map]; omega) | (unfold CMul; omega) | (unfold CDiv; omega) | (unfold CPow; exact ⟨by omega, by omega, by omega⟩) | (constructor; · omega; · omega))
local macro_rules | `(tactic| walk_at "val") => `(tactic| first | assumption | exact rfl)
local macro_rules | `(tactic| walk_at "ty") => `(tactic| first | assumption | exact rfl)
local macro_rules | `(tactic| walk_at "bt") => `(tactic| first | exact rfl | assumption)
local macro_rules | `(tactic| walk_at "n") => `(tactic| refine st_norm (by simp only [List.set_cons_succ, List.set_cons_zero]; rfl) ?_)
local macro_rules | `(tactic| walk_at "wh") => `(tactic| with_reducible conv => whnf)
local macro_rules | `(tactic| walk_at "call") => `(tactic| fail)
local macro_rules | `(tactic| walk_at "go1") => `(tactic| first
  | ((with_reducible apply go_var); (· exact rfl))
  | ((with_reducible apply go_varF); (· exact rfl); (· walk_at "ow"))
  | ((with_reducible apply go_set); (· (simp only [wipeD, List.map_cons, List.map_nil, List.set_cons_succ, List.set_cons_zero]; rfl)))
  | ((with_reducible apply go_fld); (· walk_at "fd"))
  | ((with_reducible apply go_fldH); (· walk_at "ow"); (· walk_at "fd"))
  | ((with_reducible apply go_ixT); (· walk_at "ix"))
  | ((with_reducible apply go_ixL); (· walk_at "ix"))
  | ((with_reducible apply go_ixH); (· walk_at "ow"); (· walk_at "ix"))
  | ((with_reducible apply go_bcT); (· walk_at "bt"))
  | ((with_reducible apply go_bcF); (· walk_at "bt"))
  | ((with_reducible apply go_methH); (· walk_at "ow"); (· walk_at "fd"))
  | ((with_reducible apply And.intro); (· walk_at "sz"))
  | ((with_reducible apply go_lm); (· walk_at "ow"))
  | ((with_reducible apply go_lm2); (· walk_at "ow"))
  | ((with_reducible apply go_app); (· walk_at "sz"))
  | ((with_reducible apply go_ext); (· walk_at "sz"))
  | ((with_reducible apply go_setF); (· walk_at "ow"))
  | ((with_reducible apply go_frz); (· walk_at "ow"))
  | ((with_reducible apply go_atK); (· walk_at "val"))
  | ((with_reducible apply go_atS); (· walk_at "val"))
  | ((with_reducible apply go_atI); (· walk_at "val"))
  | ((with_reducible apply go_atHK); (· walk_at "ow"); (· walk_at "val"))
  | ((with_reducible apply go_atHS); (· walk_at "ow"); (· walk_at "val"))
  | ((with_reducible apply go_dputS); (· walk_at "ow"); (· walk_at "sz"))
  | ((with_reducible apply go_dputK); (· walk_at "ow"); (· walk_at "sz"))
  | (with_reducible apply go_eqI)
  | (with_reducible apply go_eqS)
  | (with_reducible apply go_eqB)
  | (with_reducible apply go_neg)
  | (with_reducible apply go_lenL)
  | (with_reducible apply go_lenT)
  | ((with_reducible apply go_lenS); (· walk_at "sz"))
  | ((with_reducible apply go_lenH); (· walk_at "ow"))
  | (with_reducible apply go_tupL)
  | (with_reducible apply go_tupT)
  | ((with_reducible apply go_tupH); (· walk_at "ow"))
  | (with_reducible apply go_listL)
  | (with_reducible apply go_listT)
  | ((with_reducible apply go_listH); (· walk_at "ow"))
  | (with_reducible apply go_all)
  | (with_reducible apply go_any)
  | ((with_reducible apply go_isi); (· exact rfl); (· walk_at "ty"); (· walk_at "val"))
  | ((with_reducible apply go_inS); (· exact rfl))
  | ((with_reducible apply go_inSL); (· exact rfl))
  | ((with_reducible apply go_sortS); (· walk_at "sz"))
  | (with_reducible apply go_own)
  | (with_reducible apply go_pnil)
  | (with_reducible apply go_pcons)
  | ((with_reducible apply go_lcNil); (· exact trivial))
  | (with_reducible apply go_lcCons)
  | (with_reducible apply go_min2)
  | walk_at "call")
local macro_rules | `(tactic| walk_at "go") => `(tactic| (walk_at "wh"; repeat (walk_at "go1"; walk_at "wh")))
local macro_rules | `(tactic| walk_at "all") => `(tactic| (walk_at "wh"; repeat ((first | walk_at "go1" | (with_reducible refine go_st fun _ _ => ?_) | (with_reducible apply goN; (· assumption))); walk_at "wh")))
local macro_rules | `(tactic| walk_at "call") => `(tactic| first | ((with_reducible apply goR_inK); (· exact rfl)) | ((with_reducible apply goR_ixK); (· exact rfl)))
abbrev s_cells_of : Stmt := topS 25
abbrev N_cells_of : List Str := ["step", "kind", "item"]
theorem sc_cells_of : FnScope N_cells_of ["step"] (defScope s_cells_of) := ⟨rfl, rfl, rfl, by decide +kernel, rfl, by decide +kernel, by decide +kernel⟩
abbrev s_following : Stmt := topS 32
abbrev N_following : List Str := ["reader_rows", "at", "step"]
theorem sc_following : FnScope N_following ["reader_rows", "at"] (defScope s_following) := ⟨rfl, rfl, rfl, by decide +kernel, rfl, by decide +kernel, by decide +kernel⟩
abbrev s_used_cells : Stmt := topS 33
abbrev N_used_cells : List Str := ["step"]
theorem sc_used_cells : FnScope N_used_cells ["step"] (defScope s_used_cells) := ⟨rfl, rfl, rfl, by decide +kernel, rfl, by decide +kernel, by decide +kernel⟩
abbrev s_set_cells : Stmt := topS 34
abbrev N_set_cells : List Str := ["step"]
theorem sc_set_cells : FnScope N_set_cells ["step"] (defScope s_set_cells) := ⟨rfl, rfl, rfl, by decide +kernel, rfl, by decide +kernel, by decide +kernel⟩
def testsT : List D := [.str "same", .str "less", .str "has", .str "link"]
def Rw.fol (r : Nat) : Rw → List Nat
  | .jump j => [j]
  | .fin | .ref => []
  | .same _ _ j | .less _ _ j | .has _ _ j | .link _ _ _ j => [r + 1, j]
  | _ => [r + 1]
def Rw.uses : Rw → List Nat
  | .same a b _ | .less a b _ | .link _ a b _ => [a, b]
  | .has _ a _ => [a]
  | .up c => [c]
  | .copy _ b => [b]
  | _ => []
def Rw.sets : Rw → List Nat
  | .read c | .zero c | .top c | .up c => [c]
  | .copy a _ => [a]
  | _ => []
def Rw.cel : Rw → List Nat
  | .read c | .zero c | .top c | .up c => [c]
  | .copy a b | .same a b _ | .less a b _ | .link _ a b _ => [a, b]
  | .has _ a _ => [a]
  | _ => []
def celS : DSp := fun ds O Q _ => ∃ x : Rw, ds = [x.d] ∧ Q (.lst (x.cel.map natD)) O
def folS : DSp := fun ds O Q _ => ∃ (d : D) (rows : List Rw) (r : Nat) (x : Rw), ds = [d, natD r] ∧ Seq d (rows.map Rw.d) ∧ rows[r]? = some x ∧ Q (.lst ((x.fol r).map natD)) O
def useS : DSp := fun ds O Q _ => ∃ x : Rw, ds = [x.d] ∧ Q (.lst (x.uses.map natD)) O
def setS : DSp := fun ds O Q _ => ∃ x : Rw, ds = [x.d] ∧ Q (.lst (x.sets.map natD)) O
theorem at_r {rows : List Rw} {r : Nat} {x : Rw} (hx : rows[r]? = some x) : atI (rows.map Rw.d) (r : Int) = some x.d := by
  refine atI_nat ?_
  rw [List.getElem?_map, hx]; rfl
theorem go_slT1 {O : Ow} {x : D} {xs : List D} {R : D → Prop} (h : R (.tup xs)) : slD (lk O (.tup (x :: xs))) (some 1) none R := by
  refine ⟨fun e => ?_, ?_⟩
  · have e := e.1
    rw [show (some (1 : Int)) = some ((1 : Nat) : Int) from rfl, HT.sIx_nat, List.length_cons] at e
    omega
  · unfold EV.cutD
    rw [show (some (1 : Int)) = some ((1 : Nat) : Int) from rfl, HT.sIx_nat, HT.sIx_none, List.length_cons, show min 1 (xs.length + 1) = 1 by omega, List.drop_succ_cons, List.drop_zero, Nat.add_sub_cancel, List.take_of_length_le (Nat.le_refl _)]
    exact h
theorem go_zipST {y : Str} {xs : List D} {Q : IL → Prop} (h : Q (tt1, zipL (charsD y) xs)) : zipD [.str y, .tup xs] Q := h
def celF (d : D) : Option D := match d with
  | .tup [.str k, it] => if k = ("c" : Str) then some it else none
  | _ => none
theorem zipL_le {a b : List D} : (zipL a b).length ≤ b.length := by unfold zipL; rw [List.length_zipWith]; exact Nat.min_le_right _ _
theorem zip_chr {y : Str} {xs : List D} {d : D} (h : d ∈ zipL (charsD y) xs) : ∃ k it, d = .tup [.str k, it] := by
  rw [zipL_chars] at h
  obtain ⟨p, _, rfl⟩ := List.mem_map.mp h
  exact ⟨_, _, rfl⟩
section
variable {P : Program} {w : World} {K : PySem.W.Frag} {mg : Str → Option Value} {base : Heap}
theorem ok_set_cells {f : Addr} {fd : FuncData} (F : Fun K "set_cells" "set_cells" s_set_cells f fd) : FnOk P w K mg base CX0 1 f fd ["step"] (spD K setS) := by
  refine fn_pure F sc_set_cells (fun ds O Q E h => ?_) (fun cdv A outer s H E hr =>
    (d_sone (d_ret (d_if (d_tcmp od_inS (d_ix (d_var (i := 0) rfl (.inl rfl) (by decide) (by decide)) d_int (fun _ _ => rfl)) (d_tup (d_cons d_str (d_cons d_str (d_cons d_str (d_cons d_str (d_cons d_str d_nil rfl) rfl) rfl) rfl) rfl)) rfl) (d_lst (d_cons (d_ix (d_var (i := 0) rfl (.inl rfl) (by decide) (by decide)) d_int (fun _ _ => rfl)) d_nil rfl)) (d_lst d_nil))))) (fun ds O Q E h => ?_) (fun ds O Q E h => h)
  · obtain ⟨x, rfl, _⟩ := h; rfl
  · obtain ⟨x, rfl, k⟩ := h
    rw [show startD N_set_cells [x.d] = [.sh x.d] from rfl]
    cases x
    all_goals
      simp only [Rw.d]
      walk_at "go"
      repeat ((first | refine go_bcT (by decide +kernel) ?_ | refine go_bcF (by decide +kernel) ?_); walk_at "go")
      exact k
theorem ok_following {f aT : Addr} {fd : FuncData} (F : Fun K "following" "following" s_following f fd) (M_TESTS : mg "TESTS" = some (.ref aT)) (B_TESTS : gtupB K aT testsT = true) :
    FnOk P w K mg base CX0 1 f fd ["reader_rows", "at"] (spD K folS) := by
  refine fn_pure F sc_following (fun ds O Q E h => ?_) (fun cdv A outer s H E hr =>
    (d_scons (d_set (i := 2) sc_following.nd rfl (.inl rfl) (d_ix (d_var (i := 0) rfl (.inl rfl) (by decide) (by decide)) (d_var (i := 1) rfl (.inl rfl) (by decide) (by decide)) (fun _ _ => rfl)) rfl (.inl rfl))
      (d_scons (d_ifS (d_tcmp (od_eq hr.units) (d_ix (d_var (i := 2) rfl (.inl rfl) (by decide) (by decide)) d_int (fun _ _ => rfl)) d_str (nomark _)) (d_sone (d_ret (d_lst (d_cons (d_ix (d_var (i := 2) rfl (.inl rfl) (by decide) (by decide)) d_int (fun _ _ => rfl)) d_nil rfl)))) d_snil)
      (d_scons (d_ifS (d_tcmp od_inS (d_ix (d_var (i := 2) rfl (.inl rfl) (by decide) (by decide)) d_int (fun _ _ => rfl)) (d_tup (d_cons d_str (d_cons d_str d_nil rfl) rfl)) rfl) (d_sone (d_ret (d_lst d_nil))) d_snil)
      (d_sone (d_ret (d_if (d_tcmp od_inS (d_ix (d_var (i := 2) rfl (.inl rfl) (by decide) (by decide)) d_int (fun _ _ => rfl)) (d_gtup B_TESTS rfl M_TESTS (by decide)) rfl) (d_lst (d_cons (d_op od_add (d_var (i := 1) rfl (.inl rfl) (by decide) (by decide)) d_int) (d_cons (d_ix (d_var (i := 2) rfl (.inl rfl) (by decide) (by decide)) (d_neg d_int) (fun _ _ => rfl)) d_nil rfl) rfl)) (d_lst (d_cons (d_op od_add (d_var (i := 1) rfl (.inl rfl) (by decide) (by decide)) d_int) d_nil rfl))))))))) (fun ds O Q E h => ?_) (fun ds O Q E h => h)
  · obtain ⟨d, rows, r, x, rfl, _⟩ := h; rfl
  · obtain ⟨d, rows, r, x, rfl, hd, hx, k⟩ := h
    rw [show startD N_following [d, natD r] = [.sh d, .sh (natD r), .un] from rfl]
    have e1 := at_r hx
    rcases hd with rfl | rfl
    all_goals
      cases x
      all_goals
        simp only [Rw.d] at e1
        refine go_st fun N hN => ?_
        walk_at "go"
        subst hN
        walk_at "go"
        repeat ((first | refine go_bcT (by decide +kernel) ?_ | refine go_bcF (by decide +kernel) ?_); walk_at "go")
        exact k
theorem ok_cells_of {f aF : Addr} {fd : FuncData} (F : Fun K "cells_of" "cells_of" s_cells_of f fd) (m_zip : mg "zip" = none) (M_FORMS : mg "FORMS" = some (.ref aF)) (T_FORMS : TabK K w aF formsT) :
    FnOk P w K mg base CX0 1 f fd ["step"] (spD K celS) := by
  refine fn_pure F sc_cells_of (fun ds O Q E h => ?_) (fun cdv A outer s H E hr =>
    (d_sone (d_ret (d_lc rfl sc_cells_of.nd (d_zip rfl m_zip (d_cons (d_ixK T_FORMS (d_gdict rfl M_FORMS (by decide)) (d_ix (d_var (i := 0) rfl (.inl rfl) (by decide) (by decide)) d_int (fun _ _ => rfl)) (fun _ _ => rfl)) (d_cons (d_sl (d_var (i := 0) rfl (.inl rfl) (by decide) (by decide)) (d_part d_int) d_nopart) d_nil rfl) rfl) rfl rfl) (blkOk_by (own := [("kind", 1), ("item", 2)]) (N := N_cells_of) (sc := defScope s_cells_of) (by decide +kernel)) (fun _ _ _ _ _ => (dg_tup (n := 2) rfl (dgs_cons (dg_name (i := 1) sc_cells_of.nd rfl (.inl rfl) (.inr rfl)) (dgs_cons (dg_name (i := 2) sc_cells_of.nd rfl (.inl rfl) (.inr rfl)) dgs_nil rfl) rfl) rfl rfl)) (fun _ _ _ _ _ => (d_ifs1 (d_tcmp (od_eq hr.units) (d_var (i := 1) rfl (.inl rfl) (by decide) (by decide)) d_str (nomark _)))) (fun _ _ _ _ _ => (d_var (i := 2) rfl (.inl rfl) (by decide) (by decide))) (by decide +kernel) (fun _ => rfl))))) (fun ds O Q E h => ?_) (fun ds O Q E h => h)
  · obtain ⟨x, rfl, _⟩ := h; rfl
  · obtain ⟨x, rfl, k⟩ := h
    rw [show startD N_cells_of [x.d] = [.sh x.d, .un, .un] from rfl]
    cases x
    all_goals
      simp only [Rw.d]
      walk_at "go"
      refine go_slT1 ?_
      walk_at "go"
      refine go_zipST ?_
      walk_at "wh"
      refine lcW_fm (I := tt1) trivial celF (fun d hd Qy Qs h1 h2 => ?_) (szk' (Nat.le_trans (by show 0 + (zipL _ _).length ≤ _; rw [Nat.zero_add]; exact zipL_le) (by simp only [List.length_cons, List.length_nil]; omega))) ?_
      · obtain ⟨kk, it, rfl⟩ := zip_chr hd
        unfold elW
        walk_at "go"
        by_cases e : kk = ("c" : Str)
        · refine go_bcT (decide_eq_true e) ?_
          walk_at "go"
          exact h1 _ (if_pos e)
        · refine go_bcF (decide_eq_false e) ?_
          exact h2 (if_neg e)
      exact k
theorem ok_used_cells {f fC aT : Addr} {fd fdC : FuncData} (F : Fun K "used_cells" "used_cells" s_used_cells f fd) (M_TESTS : mg "TESTS" = some (.ref aT)) (B_TESTS : gtupB K aT testsT = true)
    (G_cells_of : FnOk P w K mg base CX0 1 fC fdC ["step"] (spD K celS)) (T_cells_of : Gf K mg "cells_of" fC fdC ["step"]) :
    FnOk P w K mg base CX0 2 f fd ["step"] (spD K useS) := by
  refine fn_pure F sc_used_cells (fun ds O Q E h => ?_) (fun cdv A outer s H E hr =>
    (d_scons (d_ifS (DPW.pt (d_wor (d_tcmp od_inS (d_ix (d_var (i := 0) rfl (.inl rfl) (by decide) (by decide)) d_int (fun _ _ => rfl)) (d_gtup B_TESTS rfl M_TESTS (by decide)) rfl) (d_or1 (d_tcmp (od_eq hr.units) (d_ix (d_var (i := 0) rfl (.inl rfl) (by decide) (by decide)) d_int (fun _ _ => rfl)) d_str (nomark _))))) (d_sone (d_ret (d_call G_cells_of (hr.mono (by decide)) rfl T_cells_of.m T_cells_of.k T_cells_of.b (fun _ => pass0A) (d_cons (d_var (i := 0) rfl (.inl rfl) (by decide) (by decide)) d_nil rfl) (by decide) rfl rfl))) d_snil)
      (d_sone (d_ret (d_if (d_tcmp (od_eq hr.units) (d_ix (d_var (i := 0) rfl (.inl rfl) (by decide) (by decide)) d_int (fun _ _ => rfl)) d_str (nomark _)) (d_lst (d_cons (d_ix (d_var (i := 0) rfl (.inl rfl) (by decide) (by decide)) d_int (fun _ _ => rfl)) d_nil rfl)) (d_lst d_nil)))))) (fun ds O Q E h => ?_) (fun ds O Q E h => h)
  · obtain ⟨x, rfl, _⟩ := h; rfl
  · obtain ⟨x, rfl, k⟩ := h
    rw [show startD N_used_cells [x.d] = [.sh x.d] from rfl]
    obtain ⟨x0, hx0⟩ : ∃ x0, x0 = x := ⟨x, rfl⟩
    cases x
    all_goals
      simp only [Rw.d]
      walk_at "go"
      repeat ((first | refine go_bcT (by decide +kernel) ?_ | refine go_bcF (by decide +kernel) ?_); walk_at "go")
      first
        | exact k
        | (refine spM.of ⟨x0, by subst hx0; rfl, ?_⟩
           subst hx0
           walk_at "go"
           exact k)
end
end LW
set_option Elab.async false
set_option linter.all false
set_option maxRecDepth 100000
set_option maxHeartbeats 4000000
set_option pp.maxSteps 900
namespace LW
open PySem PySem.Spec PyProof.Rows L2 EV PySem.XO PySem.W LamX
inductive Nd (rows : List Rw) (c : Nat) : Nat → Prop
  | use {r : Nat} {x : Rw} : rows[r]? = some x → c ∈ x.uses → Nd rows c r
  | step {r r' : Nat} {x : Rw} : rows[r]? = some x → r' ∈ x.fol r → c ∉ x.sets → Nd rows c r' → Nd rows c r
noncomputable def ndB (rows : List Rw) (c r : Nat) : Bool := @decide (Nd rows c r) (Classical.propDecidable _)
theorem ndB_iff {rows : List Rw} {c r : Nat} : ndB rows c r = true ↔ Nd rows c r := by unfold ndB; exact @decide_eq_true_iff _ (Classical.propDecidable _)
theorem Nd.lt {rows : List Rw} {c r : Nat} (h : Nd rows c r) : r < rows.length := by
  have key : ∀ {x : Rw}, rows[r]? = some x → r < rows.length := fun {x} e => by
    rcases Nat.lt_or_ge r rows.length with h | h
    · exact h
    · rw [List.getElem?_eq_none h] at e; cases e
  cases h with
  | use e _ => exact key e
  | step e _ _ _ => exact key e
abbrev BTab := List (List Bool)
def tb (fd : BTab) (r c : Nat) : Bool := (fd.getD r []).getD c false
def nrow (nc : Nat) (fd : BTab) (r : Nat) (x : Rw) : List Bool := (List.range nc).map fun c => decide (c ∈ x.uses) || (!decide (c ∈ x.sets) && (x.fol r).any fun r' => tb fd r' c)
theorem nrow_len {nc : Nat} {fd : BTab} {r : Nat} {x : Rw} : (nrow nc fd r x).length = nc := by unfold nrow; rw [List.length_map, List.length_range]
theorem nrow_at {nc : Nat} {fd : BTab} {r c : Nat} {x : Rw} (hc : c < nc) : (nrow nc fd r x).getD c false = (decide (c ∈ x.uses) || (!decide (c ∈ x.sets) && (x.fol r).any fun r' => tb fd r' c)) := by
  unfold nrow
  rw [List.getD_eq_getElem?_getD, List.getElem?_map, List.getElem?_range hc]; rfl
theorem tb_set {fd : BTab} {r r' c : Nat} {l : List Bool} (hr : r < fd.length) : tb (fd.set r l) r' c = if r = r' then l.getD c false else tb fd r' c := by
  unfold tb
  rw [List.getD_eq_getElem?_getD (l := fd.set r l), List.getD_eq_getElem?_getD (l := fd)]
  by_cases e : r = r'
  · subst e; rw [if_pos rfl, List.getElem?_set_self hr]; rfl
  · rw [if_neg e, List.getElem?_set_ne e]
structure Snd (rows : List Rw) (nc : Nat) (fd : BTab) : Prop where
  ln : fd.length = rows.length
  lc : ∀ l ∈ fd, l.length = nc
  s : ∀ r c, tb fd r c = true → Nd rows c r
  m : ∀ r x, rows[r]? = some x → ∀ c, c < nc → tb fd r c = true → (nrow nc fd r x).getD c false = true
def leT2 (a b : BTab) : Prop := ∀ r c, tb a r c = true → tb b r c = true
theorem nrow_mono {nc : Nat} {a b : BTab} {r c : Nat} {x : Rw} (hc : c < nc) (h : leT2 a b) (e : (nrow nc a r x).getD c false = true) : (nrow nc b r x).getD c false = true := by
  rw [nrow_at hc] at e ⊢
  simp only [Bool.or_eq_true, Bool.and_eq_true, List.any_eq_true] at e ⊢
  rcases e with e | ⟨e1, r', hr, e2⟩
  · exact .inl e
  · exact .inr ⟨e1, r', hr, h r' c e2⟩
theorem tb_lt {rows : List Rw} {nc : Nat} {fd : BTab} (S : Snd rows nc fd) {r c : Nat} (h : tb fd r c = true) : c < nc := by
  unfold tb at h
  rw [List.getD_eq_getElem?_getD (l := fd)] at h
  cases e : fd[r]? with
  | none => rw [e] at h; simp at h
  | some l =>
    rw [e] at h
    have := S.lc l (List.mem_of_getElem? e)
    rcases Nat.lt_or_ge c nc with hc | hc
    · exact hc
    · rw [Option.getD_some, List.getD_eq_getElem?_getD, List.getElem?_eq_none (by omega)] at h; cases h
theorem Snd.le {rows : List Rw} {nc : Nat} {fd : BTab} (S : Snd rows nc fd) {r : Nat} {x : Rw} (hx : rows[r]? = some x) (hr : r < rows.length) : leT2 fd (fd.set r (nrow nc fd r x)) := fun r' c h => by
  rw [tb_set (by rw [S.ln]; exact hr)]
  split
  · rename_i e; subst e; exact S.m r x hx c (tb_lt S h) h
  · exact h
theorem Snd.up {rows : List Rw} {nc : Nat} {fd : BTab} (S : Snd rows nc fd) {r : Nat} {x : Rw} (hx : rows[r]? = some x) (hr : r < rows.length) : Snd rows nc (fd.set r (nrow nc fd r x)) := by
  have le := S.le hx hr
  have hl : r < fd.length := by rw [S.ln]; exact hr
  have sn : ∀ c, c < nc → (nrow nc fd r x).getD c false = true → Nd rows c r := fun c hc e => by
    rw [nrow_at hc] at e
    simp only [Bool.or_eq_true, Bool.and_eq_true, List.any_eq_true, decide_eq_true_eq, Bool.not_eq_true', decide_eq_false_iff_not] at e
    rcases e with e | ⟨e1, r', h1, h2⟩
    · exact .use hx e
    · exact .step hx h1 e1 (S.s r' c h2)
  refine ⟨by rw [List.length_set]; exact S.ln, fun l h => ?_, fun r' c h => ?_, fun r' y hy c hc h => ?_⟩
  · rcases List.mem_or_eq_of_mem_set h with h | rfl
    · exact S.lc l h
    · exact nrow_len
  · rw [tb_set hl] at h
    split at h
    · rename_i e
      subst e
      refine sn c ?_ h
      rcases Nat.lt_or_ge c nc with hc | hc
      · exact hc
      · rw [List.getD_eq_getElem?_getD, List.getElem?_eq_none (by rw [nrow_len]; exact hc)] at h; cases h
    · exact S.s r' c h
  · rw [tb_set hl] at h
    split at h
    · rename_i e
      subst e
      rw [hx] at hy; cases hy
      exact nrow_mono hc le h
    · exact nrow_mono hc le (S.m r' y hy c hc h)
def prs (n nc : Nat) : List (Nat × Nat) := (List.range n).flatMap fun r => (List.range nc).map fun c => (r, c)
def low (n nc : Nat) (fd : BTab) : Nat := (prs n nc).countP fun p => !tb fd p.1 p.2
theorem countP_le {α : Type} {p q : α → Bool} : ∀ {l : List α}, (∀ x ∈ l, p x = true → q x = true) → l.countP p ≤ l.countP q
  | [], _ => Nat.le_refl _
  | x :: l, h => by
    have ih := countP_le (l := l) fun y hy => h y (List.mem_cons_of_mem _ hy)
    rw [List.countP_cons, List.countP_cons]
    have := h x List.mem_cons_self
    cases e : p x with
    | true => rw [this e]; simp; exact ih
    | false => simp; exact Nat.le_trans ih (Nat.le_add_right _ _)
theorem countP_lt {α : Type} {p q : α → Bool} : ∀ {l : List α}, (∀ x ∈ l, p x = true → q x = true) → ∀ x ∈ l, p x = false → q x = true → l.countP p < l.countP q
  | [], _, x, h, _, _ => by cases h
  | y :: l, h, x, hx, e1, e2 => by
    rw [List.countP_cons, List.countP_cons]
    rcases List.mem_cons.mp hx with rfl | hx
    · rw [e1, e2]
      have := countP_le (l := l) fun z hz => h z (List.mem_cons_of_mem _ hz)
      simp; omega
    · have ih := countP_lt (l := l) (fun z hz => h z (List.mem_cons_of_mem _ hz)) x hx e1 e2
      have := h y List.mem_cons_self
      cases e : p y with
      | true => rw [this e]; simp; exact ih
      | false => simp; exact Nat.lt_of_lt_of_le ih (Nat.le_add_right _ _)
theorem mem_prs {n nc r c : Nat} (hr : r < n) (hc : c < nc) : (r, c) ∈ prs n nc := by
  unfold prs
  rw [List.mem_flatMap]
  exact ⟨r, List.mem_range.mpr hr, List.mem_map.mpr ⟨c, List.mem_range.mpr hc, rfl⟩⟩
theorem ext_at {a b : List Bool} {nc : Nat} (ha : a.length = nc) (hb : b.length = nc) (h : ∀ c, c < nc → a.getD c false = b.getD c false) : a = b := by
  apply List.ext_getElem?
  intro c
  by_cases hc : c < nc
  · have := h c hc
    rw [List.getD_eq_getElem?_getD, List.getD_eq_getElem?_getD] at this
    rw [List.getElem?_eq_getElem (by omega), List.getElem?_eq_getElem (by omega)] at this ⊢
    simpa using this
  · rw [List.getElem?_eq_none (by omega), List.getElem?_eq_none (by omega)]
theorem low_lt {rows : List Rw} {nc : Nat} {fd : BTab} (S : Snd rows nc fd) {r : Nat} {x : Rw} (hx : rows[r]? = some x) (hr : r < rows.length) (ne : nrow nc fd r x ≠ fd.getD r []) : low rows.length nc (fd.set r (nrow nc fd r x)) < low rows.length nc fd := by
  have le := S.le hx hr
  have hl : (fd.getD r []).length = nc := by
    rw [List.getD_eq_getElem?_getD, List.getElem?_eq_getElem (by rw [S.ln]; exact hr)]
    exact S.lc _ (List.getElem_mem _)
  have : ∃ c, c < nc ∧ (nrow nc fd r x).getD c false ≠ (fd.getD r []).getD c false := by
    apply Classical.byContradiction
    intro hn
    exact ne (ext_at nrow_len hl fun c hc => Classical.byContradiction fun h => hn ⟨c, hc, h⟩)
  obtain ⟨c, hc, hne⟩ := this
  have h1 : tb fd r c = false := by
    cases e : tb fd r c with
    | false => rfl
    | true =>
      have := S.m r x hx c hc e
      unfold tb at e
      rw [this, e] at hne
      exact absurd rfl hne
  have h2 : (nrow nc fd r x).getD c false = true := by
    unfold tb at h1
    rw [h1] at hne
    cases e : (nrow nc fd r x).getD c false with
    | true => rfl
    | false => rw [e] at hne; exact absurd rfl hne
  refine countP_lt (fun p _ e => ?_) (r, c) (mem_prs hr hc) ?_ ?_
  · cases e2 : tb fd p.1 p.2 with
    | false => rfl
    | true => rw [le _ _ e2] at e; cases e
  · show (!tb (fd.set r (nrow nc fd r x)) r c) = false
    rw [tb_set (by rw [S.ln]; exact hr), if_pos rfl, h2]; rfl
  · show (!tb fd r c) = true
    rw [h1]; rfl
/-- nothing changes: all is told -/
theorem Snd.full {rows : List Rw} {nc : Nat} {fd : BTab} (S : Snd rows nc fd) (h : ∀ r x, rows[r]? = some x → nrow nc fd r x = fd.getD r []) {r c : Nat} (hc : c < nc) : tb fd r c = ndB rows c r := by
  rw [Bool.eq_iff_iff, ndB_iff]
  refine ⟨S.s r c, fun hn => ?_⟩
  induction hn with
  | use hx hu =>
    unfold tb
    rw [← h _ _ hx, nrow_at hc, decide_eq_true hu]; rfl
  | step hx hf hs _ ih =>
    unfold tb
    rw [← h _ _ hx, nrow_at hc, decide_eq_false hs]
    have : (List.any (Rw.fol _ _) fun r' => tb fd r' c) = true := List.any_eq_true.mpr ⟨_, hf, ih⟩
    rw [this]; simp
noncomputable def ndT (rows : List Rw) (nc : Nat) : BTab := (List.range rows.length).map fun r => (List.range nc).map fun c => ndB rows c r
theorem Snd.eq {rows : List Rw} {nc : Nat} {fd : BTab} (S : Snd rows nc fd) (h : ∀ r x, rows[r]? = some x → nrow nc fd r x = fd.getD r []) : fd = ndT rows nc := by
  apply List.ext_getElem?
  intro r
  unfold ndT
  rw [List.getElem?_map]
  by_cases hr : r < rows.length
  · rw [List.getElem?_range hr, List.getElem?_eq_getElem (by rw [S.ln]; exact hr)]
    have hl := S.lc _ (List.getElem_mem (show r < fd.length by rw [S.ln]; exact hr))
    simp only [Option.map_some]
    congr 1
    refine ext_at hl (by rw [List.length_map, List.length_range]) fun c hc => ?_
    have := S.full h (r := r) hc
    unfold tb at this
    rw [List.getD_eq_getElem?_getD (l := fd), List.getElem?_eq_getElem (by rw [S.ln]; exact hr), Option.getD_some] at this
    rw [this, List.getD_eq_getElem?_getD, List.getElem?_map, List.getElem?_range hc]; rfl
  · rw [List.getElem?_eq_none (by rw [S.ln]; omega), List.getElem?_eq_none (by rw [List.length_range]; omega)]; rfl
theorem Snd.zero {rows : List Rw} {nc : Nat} : Snd rows nc (List.replicate rows.length (List.replicate nc false)) := by
  have z : ∀ r c, tb (List.replicate rows.length (List.replicate nc false)) r c = false := fun r c => by
    unfold tb
    rw [List.getD_eq_getElem?_getD (l := List.replicate _ _)]
    cases e : (List.replicate rows.length (List.replicate nc false))[r]? with
    | none => rfl
    | some l =>
      rw [List.eq_of_mem_replicate (List.mem_of_getElem? e), Option.getD_some, List.getD_eq_getElem?_getD]
      cases e2 : (List.replicate nc false)[c]? with
      | none => rfl
      | some b => rw [List.eq_of_mem_replicate (List.mem_of_getElem? e2)]; rfl
  exact ⟨List.length_replicate, (fun l h => by rw [List.eq_of_mem_replicate h, List.length_replicate]), (fun r c h => by rw [z] at h; cases h), (fun r x _ c _ h => by rw [z] at h; cases h)⟩
def accF (nc : Nat) (fd : BTab) (l : List Nat) : List Bool := (List.range nc).map fun c => l.any fun r' => tb fd r' c
theorem accF_len {nc : Nat} {fd : BTab} {l : List Nat} : (accF nc fd l).length = nc := by unfold accF; rw [List.length_map, List.length_range]
theorem accF_at {nc : Nat} {fd : BTab} {l : List Nat} {c : Nat} (hc : c < nc) : (accF nc fd l).getD c false = l.any fun r' => tb fd r' c := by
  unfold accF
  rw [List.getD_eq_getElem?_getD, List.getElem?_map, List.getElem?_range hc]; rfl
theorem accF_nil {nc : Nat} {fd : BTab} : accF nc fd [] = List.replicate nc false := by
  unfold accF
  apply List.ext_getElem?
  intro c
  rw [List.getElem?_map, List.getElem?_replicate]
  by_cases hc : c < nc
  · rw [List.getElem?_range hc, if_pos hc]; rfl
  · rw [List.getElem?_eq_none (by rw [List.length_range]; omega), if_neg hc]; rfl
theorem accF_add {nc r' : Nat} {fd : BTab} {l : List Nat} (hl : (fd.getD r' []).length = nc) : List.zipWith (fun a b => a || b) (accF nc fd l) (fd.getD r' []) = accF nc fd (l ++ [r']) := by
  refine ext_at (nc := nc) (by rw [List.length_zipWith, accF_len, hl, Nat.min_self]) accF_len fun c hc => ?_
  rw [accF_at hc, List.any_append]
  have h1 : c < (accF nc fd l).length := by rw [accF_len]; exact hc
  have h2 : c < (fd.getD r' []).length := by rw [hl]; exact hc
  rw [List.getD_eq_getElem?_getD, List.getElem?_zipWith, List.getElem?_eq_getElem h1, List.getElem?_eq_getElem h2]
  have e1 := accF_at (fd := fd) (l := l) hc
  rw [List.getD_eq_getElem?_getD, List.getElem?_eq_getElem h1] at e1
  have e2 : tb fd r' c = (fd.getD r' [])[c] := by
    unfold tb
    rw [List.getD_eq_getElem?_getD (l := fd.getD r' []), List.getElem?_eq_getElem h2]; rfl
  simp only [Option.getD_some] at e1 ⊢
  rw [e1, List.any_cons, List.any_nil, e2, Bool.or_false]
def setF (b : Bool) (l : List Nat) (a : List Bool) : List Bool := l.foldl (fun a c => a.set c b) a
theorem setF_len {b : Bool} : ∀ {l : List Nat} {a : List Bool}, (setF b l a).length = a.length
  | [], _ => rfl
  | c :: l, a => by
    show (setF b l (a.set c b)).length = _
    rw [setF_len, List.length_set]
theorem setF_at {b : Bool} {c : Nat} : ∀ {l : List Nat} {a : List Bool}, c < a.length → (setF b l a).getD c false = if c ∈ l then b else a.getD c false
  | [], _, _ => by rw [if_neg List.not_mem_nil]; rfl
  | d :: l, a, h => by
    show (setF b l (a.set d b)).getD c false = _
    rw [setF_at (by rw [List.length_set]; exact h), List.getD_eq_getElem?_getD (l := a.set d b)]
    by_cases e : d = c
    · subst e
      rw [List.getElem?_set_self h, if_pos List.mem_cons_self]
      split <;> rfl
    · rw [List.getElem?_set_ne e]
      by_cases h2 : c ∈ l
      · rw [if_pos h2, if_pos (List.mem_cons_of_mem _ h2)]
      · rw [if_neg h2, if_neg (fun h => by rcases List.mem_cons.mp h with h | h; exact e h.symm; exact h2 h)]; rfl
theorem setF_snoc {b : Bool} {l : List Nat} {c : Nat} {a : List Bool} : setF b (l ++ [c]) a = (setF b l a).set c b := by
  unfold setF
  rw [List.foldl_append]; rfl
theorem nrow_eq {nc r : Nat} {fd : BTab} {x : Rw} : setF true x.uses (setF false x.sets (accF nc fd (x.fol r))) = nrow nc fd r x := by
  refine ext_at (nc := nc) (by rw [setF_len, setF_len, accF_len]) nrow_len fun c hc => ?_
  rw [setF_at (by rw [setF_len, accF_len]; exact hc), setF_at (by rw [accF_len]; exact hc), accF_at hc, nrow_at hc]
  by_cases h1 : c ∈ x.uses
  · rw [if_pos h1, decide_eq_true h1]; rfl
  · rw [if_neg h1, decide_eq_false h1, Bool.false_or]
    by_cases h2 : c ∈ x.sets
    · rw [if_pos h2, decide_eq_true h2]; rfl
    · rw [if_neg h2, decide_eq_false h2]; rfl
theorem uses_cel {x : Rw} {c : Nat} (h : c ∈ x.uses) : c ∈ x.cel := by
  cases x <;> simp_all [Rw.uses, Rw.cel]
theorem sets_cel {x : Rw} {c : Nat} (h : c ∈ x.sets) : c ∈ x.cel := by
  cases x <;> simp_all [Rw.sets, Rw.cel]
theorem zip_bls (a b : List Bool) : zipL (a.map D.bl) (b.map D.bl) = (a.zip b).map fun p => .tup [.bl p.1, .bl p.2] := by
  rw [zipL_eq, List.zip_map, List.map_map]; rfl
end LW
set_option Elab.async false
set_option linter.all false
set_option maxRecDepth 100000
set_option maxHeartbeats 4000000
namespace EV
open PySem PySem.Spec PyProof.Rows L2
abbrev dMulO (ma mb : DE) : DE := fun ρ O Q E => ma ρ O (fun x O1 => mb ρ O1 (fun y O2 => ∃ (xs : List D) (k : Int), x = .lst xs ∧ y = .int k ∧ -(2 ^ 63) ≤ k ∧ k < 2 ^ 63 ∧ xs.length * k.toNat ≤ sizeLine ∧ ∀ p, O2 p = none → Q (.opq (.ref p)) (oset O2 p (.lst (List.replicate k.toNat xs).flatten))) E) E
section
variable {X : Cx} {L : Pl}
theorem d_mulO {a b : Expr} {ma mb : DE} {pos : Pos} (ha : DPE X L a ma) (hb : DPE X L b mb) : DPE X L (.BinOp a .Mult b pos) (dMulO ma mb) := by
  refine ⟨fun ρ O Q Q' E E' h hx x => ha.mo ρ _ _ _ _ _ (fun _ _ q => hb.mo ρ _ _ _ _ _ (fun _ _ ⟨xs, k, e1, e2, b1, b2, b3, z⟩ => ⟨xs, k, e1, e2, b1, b2, b3, fun p n => h _ _ (z p n)⟩) hx q) hx x, pe_imp (pe_op op_rep ha.run hb.run) fun σ H Q ⟨G, O, ρ, g, rs, q⟩ => ?_⟩
  refine up_of ha.mo g rs q fun x vx O1 G1 H1 q1 s1 r1 => ?_
  refine up_of hb.mo s1.good (rs.step s1) (mo_step hb.mo s1 q1) fun y vy O2 G2 H2 q2 s2 r2 => ?_
  obtain ⟨xs, k, rfl, rfl, b1, b2, b3, z⟩ := q2
  cases r1 with
  | lst e1 l1 =>
    cases r2
    have l2 := l1.mono s2.grow
    refine ⟨_, _, _, rfl, rfl, s2.good.sub _ _ (s2.grow _ _ e1), b1, b2, by rw [l1.length]; exact b3, fun p np => ?_⟩
    exact z p (s2.good.fresh np) _ _ _ ((s1.trans s2).trans (new_own (d := .lst _) s2.good np ⟨_, upd_same, (l2.mono (fun a u h => h)).rep _⟩)) (.opq _)
end
def neH : D2 := fun O a y Q => ∃ xs x z, lk O a = .lst xs ∧ toP (.lst xs) = some x ∧ toP y = some z ∧ SeqAt.shaped x = true ∧ SeqAt.shaped z = true ∧ Q (.bl (!(PyData.eqv x z)))
theorem od_neH {X : Cx} {B : Bo} (hu : X.A.units + 64 < cLine) : OpD X B (compareOp .NotEq) neH := by
  refine ⟨fun O x y Q Q' q ⟨xs, a, z, e, h1, h2, h3, h4, k⟩ => ⟨xs, a, z, e, h1, h2, h3, h4, q _ k⟩, _, op_neD hu, fun O G H x y a b Q gd r1 r2 ⟨xs, p, z, e, h1, h2, h3, h4, q⟩ => ?_⟩
  have rx := lk_rp gd r1
  rw [e] at rx
  obtain ⟨ad, vs, rfl, s, l⟩ := rx.lst gd.sub
  have d1 : Dp X.K H (.ref ad) p := Rp.dp (Sub.refl H) (.lst s (l.mono gd.sub)) h1
  exact ⟨p, z, d1, r2.dp gd.sub h2, h3, h4, q _ _ _ (Step.refl gd) (.bl _)⟩
theorem toPs_bls : ∀ l : List Bool, toPs (l.map D.bl) = some (l.map PyData.bool)
  | [] => rfl
  | b :: l => by
    rw [List.map_cons, toPs, toPs_bls l]; rfl
theorem eqvs_bls : ∀ a b : List Bool, PyData.eqvAll (a.map PyData.bool) (b.map PyData.bool) = decide (a = b)
  | [], [] => rfl
  | [], _ :: _ => rfl
  | _ :: _, [] => rfl
  | x :: a, y :: b => by
    rw [List.map_cons, List.map_cons, PyData.eqvAll, eqvs_bls a b]
    cases x <;> cases y <;> simp [PyData.eqv]
theorem lay_bls : ∀ a : List Bool, PyData.canLayAll0 (a.map PyData.bool) = true
  | [] => rfl
  | b :: a => by rw [List.map_cons, PyData.canLayAll0, lay_bls a]; rfl
theorem dep_bls : ∀ a : List Bool, PyData.depthAll (a.map PyData.bool) = 0
  | [] => rfl
  | b :: a => by rw [List.map_cons, PyData.depthAll, dep_bls a]; rfl
theorem shp_bls (a : List Bool) : SeqAt.shaped (.list (a.map PyData.bool)) = true := by
  unfold SeqAt.shaped
  rw [PyData.canLay0, lay_bls, PyData.depth, dep_bls]; rfl
theorem go_neH {O : Ow} {p : Addr} {a b : List Bool} {R : D → Prop} (e : O p = some (.lst (a.map D.bl))) (h : R (.bl (!decide (a = b)))) : neH O (.opq (.ref p)) (.lst (b.map D.bl)) R := by
  have e1 : toP (.lst (a.map D.bl)) = some (.list (a.map PyData.bool)) := by rw [toP, toPs_bls]; rfl
  have e2 : toP (.lst (b.map D.bl)) = some (.list (b.map PyData.bool)) := by rw [toP, toPs_bls]; rfl
  refine ⟨_, _, _, lk_of e, e1, e2, shp_bls a, shp_bls b, ?_⟩
  rw [PyData.eqv, eqvs_bls]; exact h
end EV
set_option Elab.async false
set_option linter.all false
set_option maxRecDepth 100000
set_option maxHeartbeats 4000000
namespace EV
open PySem PySem.Spec PyProof.Rows L2
def ownL (O : Ow) (l : List (Addr × List D)) : Ow := l.foldl (fun O x => oset O x.1 (.lst x.2)) O
theorem ownL_out : ∀ {l : List (Addr × List D)} {O : Ow} {a : Addr}, a ∉ l.map (·.1) → ownL O l a = O a
  | [], _, _, _ => rfl
  | x :: l, O, a, h => by
    rw [List.map_cons, List.mem_cons, not_or] at h
    show ownL (oset O x.1 (.lst x.2)) l a = _
    rw [ownL_out h.2, oset_ne h.1]
theorem ownL_in : ∀ {l : List (Addr × List D)} {O : Ow}, (l.map (·.1)).Nodup → ∀ x ∈ l, ownL O l x.1 = some (.lst x.2)
  | [], _, _, _, h => by cases h
  | y :: l, O, nd, x, h => by
    rw [List.map_cons, List.nodup_cons] at nd
    show ownL (oset O y.1 (.lst y.2)) l x.1 = _
    rcases List.mem_cons.mp h with rfl | h
    · rw [ownL_out nd.1, oset_same]
    · exact ownL_in nd.2 x h
theorem ownL_deep {O : Ow} {l : List (Addr × List D)} {f : Addr} (nd : (l.map (·.1)).Nodup) (nf : f ∉ l.map (·.1)) : Deep (oset (ownL O l) f (.lst (l.map fun x => .opq (.ref x.1)))) f l :=
  ⟨oset_same, nd, nf, fun x hx => by
    have : x.1 ≠ f := fun e => nf (by rw [← e]; exact List.mem_map_of_mem hx)
    rw [oset_ne this]; exact ownL_in nd x hx⟩
theorem lcW_own {g : DG} {tt : DT} {te : DE} {ρ : Slots} (f : D → List D) {Q : List D → Ow → Prop} : ∀ {ds acc : List D} {O : Ow}, (∀ d ∈ ds, ∀ (O1 : Ow) (Qy : QD) (Qs : Ow → Prop), (∀ p, O1 p = none → Qy (.opq (.ref p)) (oset O1 p (.lst (f d)))) → elW g tt te ρ d O1 Qy Qs) → acc.length + ds.length ≤ sizeLine →
    (∀ l : List (Addr × List D), l.map (·.2) = ds.map f → (l.map (·.1)).Nodup → (∀ x ∈ l, O x.1 = none) → Q (acc ++ l.map fun x => .opq (.ref x.1)) (ownL O l)) → lcW tt1 g tt te ρ ds acc O Q
  | [], acc, O, _, _, q => ⟨trivial, by have := q [] rfl List.nodup_nil (fun _ h => by cases h); simpa [ownL] using this⟩
  | d :: ds, acc, O, h, hl, q => by
    have hl' : acc.length + (ds.length + 1) ≤ sizeLine := hl
    refine lcW_cons trivial (h d List.mem_cons_self O _ _ fun p np => ⟨by omega, lcW_own f (fun d' m => h d' (List.mem_cons_of_mem _ m)) (by simp; omega) fun l e nd ho => ?_⟩)
    have hp : ∀ x ∈ l, x.1 ≠ p := fun x hx e => by have := ho x hx; rw [e, oset_same] at this; cases this
    have := q ((p, f d) :: l) (by rw [List.map_cons, List.map_cons, e]) (by
      rw [List.map_cons, List.nodup_cons]
      exact ⟨fun hm => by obtain ⟨x, hx, e⟩ := List.mem_map.mp hm; exact hp x hx e, nd⟩) fun x hx => by
      rcases List.mem_cons.mp hx with rfl | hx
      · exact np
      · have := ho x hx
        rwa [oset_ne (hp x hx)] at this
    rw [List.map_cons] at this
    rw [List.append_assoc]
    exact this
end EV
set_option Elab.async false
set_option linter.all false
set_option maxRecDepth 100000
set_option maxHeartbeats 4000000
set_option pp.maxSteps 900
namespace LW
open PySem PySem.Spec PyProof.Rows L2 EV PySem.XO PySem.W LamX
local macro_rules | `(tactic| walk_at "fd") => `(tactic| first | assumption | rfl)
local macro_rules | `(tactic| walk_at "ow") => `(tactic| first | assumption | exact oset_self | (rw [oset_ne (by assumption)]; walk_at "ow") | (rw [oset_ne (Ne.symm (by assumption))]; walk_at "ow"))
local macro_rules | `(tactic| walk_at "ix") => `(tactic| first | exact EV.ga0 | exact EV.ga1 | exact EV.ga2 | exact EV.ga3 | exact EV.ga4 | exact EV.ga5 | exact EV.ga6 | exact EV.ga7 | exact EV.ga8 | exact EV.ga9 | exact EV.ga10 | exact EV.ga11 | exact EV.ga12 | exact EV.ga13 | exact EV.ga14 | exact EV.ga15 | assumption | rfl)
local macro_rules | `(tactic| walk_at "sz") => `(tactic| first | exact trivial | (with_reducible assumption) | omega | ((with_reducible refine szR ?_); exact rfl) | ((with_reducible refine szk' ?_); omega) | ((with_reducible refine szl ?_); omega) | exact szlt rfl | rfl | exact ⟨rfl, by assumption⟩ | exact ⟨rfl, rfl⟩ | exact ⟨_, rfl⟩ | ((with_reducible refine szk' ?_); simp only [List.length_cons, List.length_nil, List.length_append, List.length_map]; omega) | (unfold CMul; omega) | (unfold CDiv; omega) | (unfold CPow; exact ⟨by omega, by omega, by omega⟩) | (constructor; · omega; · omega))
local macro_rules | `(tactic| walk_at "val") => `(tactic| first | assumption | exact rfl)
local macro_rules | `(tactic| walk_at "ty") => `(tactic| first | assumption | exact rfl)
local macro_rules | `(tactic| walk_at "bt") => `(tactic| first | exact rfl | assumption)
local macro_rules | `(tactic| walk_at "n") => `(tactic| refine st_norm (by simp only [List.set_cons_succ, List.set_cons_zero]; rfl) ?_)
local macro_rules | `(tactic| walk_at "wh") => `(tactic| with_reducible conv => whnf)
local macro_rules | `(tactic| walk_at "call") => `(tactic| fail)
local macro_rules | `(tactic| walk_at "go1") => `(tactic| first
  | ((with_reducible apply go_var); (· exact rfl))
  | ((with_reducible apply go_varF); (· exact rfl); (· walk_at "ow"))
  | ((with_reducible apply go_set); (· (simp only [wipeD, List.map_cons, List.map_nil, List.set_cons_succ, List.set_cons_zero]; rfl)))
  | ((with_reducible apply go_fld); (· walk_at "fd"))
  | ((with_reducible apply go_fldH); (· walk_at "ow"); (· walk_at "fd"))
  | ((with_reducible apply go_ixT); (· walk_at "ix"))
  | ((with_reducible apply go_ixL); (· walk_at "ix"))
  | ((with_reducible apply go_ixH); (· walk_at "ow"); (· walk_at "ix"))
  | ((with_reducible apply go_bcT); (· walk_at "bt"))
  | ((with_reducible apply go_bcF); (· walk_at "bt"))
  | ((with_reducible apply go_methH); (· walk_at "ow"); (· walk_at "fd"))
  | ((with_reducible apply And.intro); (· walk_at "sz"))
  | ((with_reducible apply go_lm); (· walk_at "ow"))
  | ((with_reducible apply go_lm2); (· walk_at "ow"))
  | ((with_reducible apply go_app); (· walk_at "sz"))
  | ((with_reducible apply go_ext); (· walk_at "sz"))
  | ((with_reducible apply go_setF); (· walk_at "ow"))
  | ((with_reducible apply go_frz); (· walk_at "ow"))
  | ((with_reducible apply go_atK); (· walk_at "val"))
  | ((with_reducible apply go_atS); (· walk_at "val"))
  | ((with_reducible apply go_atI); (· walk_at "val"))
  | ((with_reducible apply go_atHK); (· walk_at "ow"); (· walk_at "val"))
  | ((with_reducible apply go_atHS); (· walk_at "ow"); (· walk_at "val"))
  | ((with_reducible apply go_dputS); (· walk_at "ow"); (· walk_at "sz"))
  | ((with_reducible apply go_dputK); (· walk_at "ow"); (· walk_at "sz"))
  | (with_reducible apply go_eqI)
  | (with_reducible apply go_eqS)
  | (with_reducible apply go_eqB)
  | (with_reducible apply go_neg)
  | (with_reducible apply go_lenL)
  | (with_reducible apply go_lenT)
  | ((with_reducible apply go_lenS); (· walk_at "sz"))
  | ((with_reducible apply go_lenH); (· walk_at "ow"))
  | (with_reducible apply go_tupL)
  | (with_reducible apply go_tupT)
  | ((with_reducible apply go_tupH); (· walk_at "ow"))
  | (with_reducible apply go_listL)
  | (with_reducible apply go_listT)
  | ((with_reducible apply go_listH); (· walk_at "ow"))
  | (with_reducible apply go_all)
  | (with_reducible apply go_any)
  | ((with_reducible apply go_isi); (· exact rfl); (· walk_at "ty"); (· walk_at "val"))
  | ((with_reducible apply go_inS); (· exact rfl))
  | ((with_reducible apply go_inSL); (· exact rfl))
  | ((with_reducible apply go_sortS); (· walk_at "sz"))
  | (with_reducible apply go_own)
  | (with_reducible apply go_pnil)
  | (with_reducible apply go_pcons)
  | ((with_reducible apply go_lcNil); (· exact trivial))
  | (with_reducible apply go_lcCons)
  | (with_reducible apply go_min2)
  | walk_at "call")
local macro_rules | `(tactic| walk_at "go") => `(tactic| (walk_at "wh"; repeat (walk_at "go1"; walk_at "wh")))
local macro_rules | `(tactic| walk_at "all") => `(tactic| (walk_at "wh"; repeat ((first | walk_at "go1" | (with_reducible refine go_st fun _ _ => ?_) | (with_reducible apply goN; (· assumption))); walk_at "wh")))
local macro_rules | `(tactic| walk_at "call") => `(tactic| first | ((with_reducible apply goR_inK); (· exact rfl)) | ((with_reducible apply goR_ixK); (· exact rfl)))
abbrev s_needs : Stmt := topS 35
abbrev N_needs : List Str := ["reader_rows", "cells", "found", "changed", "at", "step", "fresh", "then", "cell", "_", "one", "other"]
theorem sc_needs : FnScope N_needs ["reader_rows", "cells"] (defScope s_needs) := ⟨rfl, rfl, rfl, by decide +kernel, rfl, by decide +kernel, by decide +kernel⟩
abbrev s_needed : Stmt := topS 36
abbrev N_needed : List Str := ["reader", "told", "cell", "need"]
theorem sc_needed : FnScope N_needed ["reader"] (defScope s_needed) := ⟨rfl, rfl, rfl, by decide +kernel, rfl, by decide +kernel, by decide +kernel⟩
theorem rngC_get {lo c : Int} {n i : Nat} {d : D} (h : (rngC lo c n)[i]? = some d) : i < n ∧ d = .int (lo + (i : Int) * c) := by
  unfold rngC at h
  rw [List.getElem?_map] at h
  by_cases hi : i < n
  · rw [List.getElem?_range hi] at h
    cases h
    exact ⟨hi, rfl⟩
  · rw [List.getElem?_eq_none (by rw [List.length_range]; omega)] at h; cases h
theorem go_zipLL {xs ys : List D} {Q : IL → Prop} (h : Q (tt1, zipL xs ys)) : zipD [.lst xs, .lst ys] Q := h
def orF : D → D
  | .tup [.bl p, .bl q] => .bl (p || q)
  | _ => .non
/-- more may lie about than before -/
structure Grb (O : Ow) (pf : Addr) (O' : Ow) : Prop where
  sub : ∀ a d, O a = some d → O' a = some d
  np : O' pf = none
theorem Grb.add {O O' : Ow} {pf pz : Addr} {d : D} (g : Grb O pf O') (h : pz ≠ pf) (n : O' pz = none) : Grb O pf (oset O' pz d) :=
  ⟨fun a e h2 => by
    have h3 := g.sub a e h2
    have : a ≠ pz := fun z => by rw [z, n] at h3; cases h3
    rw [oset_ne this]; exact h3, by rw [oset_ne h.symm]; exact g.np⟩
theorem oset_comm {O : Ow} {p q : Addr} {a b : D} (h : q ≠ p) : oset (oset O p a) q b = oset (oset O q b) p a := by
  funext z
  by_cases e1 : z = p
  · subst e1; simp [oset, Ne.symm h]
  · by_cases e2 : z = q
    · subst e2; simp [oset, h]
    · simp [oset, e1, e2]
structure Kp (p : Prop) : Prop where
  h : p
abbrev bls (l : List Bool) : D := .lst (l.map D.bl)
abbrev btD (fd : BTab) : D := .lst (fd.map bls)
def needsS : DSp := fun ds O Q _ => ∃ (d : D) (rows : List Rw) (nc : Nat), ds = [d, natD nc] ∧ Seq d (rows.map Rw.d) ∧ nc ≤ 300 ∧ rows.length ≤ 900 ∧ (∀ x ∈ rows, ∀ c ∈ x.cel, c < nc) ∧ (∀ (r : Nat) (x : Rw), rows[r]? = some x → ∀ r' ∈ x.fol r, r' < rows.length) ∧ Q (btD (ndT rows nc)) O
section
variable {P : Program} {w : World} {K : PySem.W.Frag} {mg : Str → Option Value} {base : Heap}
theorem ok_needs {f fF fU fS : Addr} {fd fdF fdU fdS : FuncData} (F : Fun K "needs" "needs" s_needs f fd)
    (G_following : FnOk P w K mg base CX0 1 fF fdF ["reader_rows", "at"] (spD K folS)) (T_following : Gf K mg "following" fF fdF ["reader_rows", "at"])
    (G_used_cells : FnOk P w K mg base CX0 2 fU fdU ["step"] (spD K useS)) (T_used_cells : Gf K mg "used_cells" fU fdU ["step"])
    (G_set_cells : FnOk P w K mg base CX0 1 fS fdS ["step"] (spD K setS)) (T_set_cells : Gf K mg "set_cells" fS fdS ["step"])
    (m_range : mg "range" = none) (m_len : mg "len" = none) (m_zip : mg "zip" = none) :
    FnOk P w K mg base CX0 3 f fd ["reader_rows", "cells"] (spD K needsS) := by
  refine fn_pureF F sc_needs (fun ds O Q E h => ?_) (fun cdv A outer s H E hr =>
    (d_scons (d_setLcO (i := 2) rfl sc_needs.nd rfl rfl (sw_true rfl rfl rfl (by decide +kernel)) (d_iter (d_var (i := 0) rfl (.inl rfl) (by decide) (by decide))) (blkOk_by (own := [("_", 9)]) (N := N_needs) (sc := defScope s_needs) (by decide +kernel)) (fun _ _ _ _ _ => (dg_name (i := 9) sc_needs.nd rfl (.inl rfl) (.inr rfl))) (fun _ _ _ _ _ => d_ifs0) (fun _ _ _ _ _ => (d_op od_mul (d_lst (d_cons d_bl d_nil rfl)) (d_var (i := 1) rfl (.inr (.inl rfl)) (by decide) (by decide)))) (by decide +kernel) (fun _ => rfl))
      (d_scons (d_set (i := 3) sc_needs.nd rfl (.inl rfl) d_bl rfl (.inl rfl))
      (d_scons (d_while PassesOwn.never (d_test (d_var (i := 3) rfl (.inl rfl) (by decide) (by decide)) (by intro _; rfl)) (d_scons (d_set (i := 3) sc_needs.nd rfl (.inl rfl) d_bl rfl (.inl rfl))
      (d_sone (d_for PassesOwn.never rfl (d_rng3 rfl m_range (d_cons (d_op od_sub (d_callB cd_len rfl m_len boot_len (d_cons (d_var (i := 0) rfl (.inl rfl) (by decide) (by decide)) d_nil rfl) (by decide) (by decide) rfl rfl) d_int) (d_cons (d_neg d_int) (d_cons (d_neg d_int) d_nil rfl) rfl) rfl) rfl rfl) (dg_name (i := 4) sc_needs.nd rfl (.inl rfl) (.inl rfl)) (d_scons (d_set (i := 5) sc_needs.nd rfl (.inl rfl) (d_ix (d_var (i := 0) rfl (.inl rfl) (by decide) (by decide)) (d_var (i := 4) rfl (.inl rfl) (by decide) (by decide)) (fun _ _ => rfl)) rfl (.inl rfl))
      (d_scons (d_set (i := 6) sc_needs.nd rfl (.inl rfl) (d_mulO (d_lst (d_cons d_bl d_nil rfl)) (d_var (i := 1) rfl (.inr (.inl rfl)) (by decide) (by decide))) rfl (.inl rfl))
      (d_scons (d_for PassesOwn.never rfl (d_iter (d_call G_following (hr.mono (by decide)) rfl T_following.m T_following.k T_following.b (fun _ => pass0A) (d_cons (d_var (i := 0) rfl (.inl rfl) (by decide) (by decide)) (d_cons (d_var (i := 4) rfl (.inl rfl) (by decide) (by decide)) d_nil rfl) rfl) (by decide) rfl rfl)) (dg_name (i := 7) sc_needs.nd rfl (.inl rfl) (.inl rfl)) (d_sone (d_setLcO (i := 6) rfl sc_needs.nd rfl rfl (sw_true rfl rfl rfl (by decide +kernel)) (d_zip rfl m_zip (d_cons (d_varF (i := 6) rfl (.inl rfl) (by decide) (by decide)) (d_cons (d_ix (d_var (i := 2) rfl (.inl rfl) (by decide) (by decide)) (d_var (i := 7) rfl (.inl rfl) (by decide) (by decide)) (fun _ _ => rfl)) d_nil rfl) rfl) rfl rfl) (blkOk_by (own := [("one", 10), ("other", 11)]) (N := N_needs) (sc := defScope s_needs) (by decide +kernel)) (fun _ _ _ _ _ => (dg_tup (n := 2) rfl (dgs_cons (dg_name (i := 10) sc_needs.nd rfl (.inl rfl) (.inr rfl)) (dgs_cons (dg_name (i := 11) sc_needs.nd rfl (.inl rfl) (.inr rfl)) dgs_nil rfl) rfl) rfl rfl)) (fun _ _ _ _ _ => d_ifs0) (fun _ _ _ _ _ => (d_or (d_var (i := 10) rfl (.inl rfl) (by decide) (by decide)) (d_one (d_var (i := 11) rfl (.inl rfl) (by decide) (by decide))))) (by decide +kernel) (fun _ => rfl))) (fun _ => rfl))
      (d_scons (d_for PassesOwn.never rfl (d_iter (d_call G_set_cells (hr.mono (by decide)) rfl T_set_cells.m T_set_cells.k T_set_cells.b (fun _ => pass0A) (d_cons (d_var (i := 5) rfl (.inl rfl) (by decide) (by decide)) d_nil rfl) (by decide) rfl rfl)) (dg_name (i := 8) sc_needs.nd rfl (.inl rfl) (.inl rfl)) (d_sone (d_lput (d_var (i := 6) rfl (.inl rfl) (by decide) (by decide)) (d_var (i := 8) rfl (.inl rfl) (by decide) (by decide)) d_bl (by intro _; rfl) rfl rfl)) (fun _ => rfl))
      (d_scons (d_for PassesOwn.never rfl (d_iter (d_call G_used_cells (hr.mono (by decide)) rfl T_used_cells.m T_used_cells.k T_used_cells.b (fun _ => pass0A) (d_cons (d_var (i := 5) rfl (.inl rfl) (by decide) (by decide)) d_nil rfl) (by decide) rfl rfl)) (dg_name (i := 8) sc_needs.nd rfl (.inl rfl) (.inl rfl)) (d_sone (d_lput (d_var (i := 6) rfl (.inl rfl) (by decide) (by decide)) (d_var (i := 8) rfl (.inl rfl) (by decide) (by decide)) d_bl (by intro _; rfl) rfl rfl)) (fun _ => rfl))
      (d_sone (d_ifS (d_tcmp (od_neH hr.units) (d_var (i := 6) rfl (.inl rfl) (by decide) (by decide)) (d_ix (d_var (i := 2) rfl (.inl rfl) (by decide) (by decide)) (d_var (i := 4) rfl (.inl rfl) (by decide) (by decide)) (fun _ _ => rfl)) (nomark _)) (d_scons (d_lput (d_var (i := 2) rfl (.inl rfl) (by decide) (by decide)) (d_var (i := 4) rfl (.inl rfl) (by decide) (by decide)) (d_varF (i := 6) rfl (.inl rfl) (by decide) (by decide)) (by intro _; rfl) rfl rfl)
      (d_sone (d_set (i := 3) sc_needs.nd rfl (.inl rfl) d_bl rfl (.inl rfl)))) d_snil))))))) (fun _ => rfl)))))
      (d_sone (d_ret (d_varF (i := 2) rfl (.inl rfl) (by decide) (by decide)))))))) (fun ds O Q E h => ?_) (fun ds O Q E h => h)
  · obtain ⟨d, rows, nc, rfl, _⟩ := h; rfl
  · obtain ⟨d, rows, nc, rfl, hd, hnc, hrl, hcel, hfol, k⟩ := h
    rw [show startD N_needs [d, natD nc] = [.sh d, .sh (natD nc), .un, .un, .un, .un, .un, .un, .un, .un, .un, .un] from rfl]
    have kr : Kp (rows.length ≤ 900) := ⟨hrl⟩
    have kc : Kp (nc ≤ 300) := ⟨hnc⟩
    have hf0 : (List.replicate (nc : Int).toNat [D.bl false]).flatten = (List.replicate nc false).map D.bl := by
      rw [Int.toNat_natCast, List.map_replicate]
      clear hnc kc k hcel
      induction nc with
      | zero => rfl
      | succ i ih => rw [List.replicate_succ, List.replicate_succ, List.flatten_cons, ih]; rfl
    have hfl : 1 * (nc : Int).toNat ≤ sizeLine := szk' (by rw [Int.toNat_natCast]; omega)
    obtain ⟨DD, hDD⟩ : ∃ DD, DD = Sl.sh d := ⟨_, rfl⟩
    rcases hd with rfl | rfl
    all_goals
      refine go_st fun N hN => ?_
      walk_at "go"
      refine go_lc (fun _ => bls (List.replicate nc false)) (fun y hy Qy h => ?_) (szk' (by show 0 + (rows.map Rw.d).length ≤ _; rw [List.length_map]; omega)) ?_
      · walk_at "go"
        rw [hf0]; exact h
      intro pf nf
      rw [List.nil_append, show ((tt1, rows.map Rw.d) : IL).2 = rows.map Rw.d from rfl, List.map_map, show (rows.map ((fun _ => bls (List.replicate nc false)) ∘ Rw.d)) = (List.replicate rows.length (List.replicate nc false)).map bls from by rw [List.map_replicate]; exact List.map_const' ..]
      walk_at "go"
      subst hN
      refine go_st fun N hN => ?_
      walk_at "go"
      subst hN
      refine go_st fun N hN => ?_
      refine ⟨fun m ρ O1 => ∃ (fd : BTab) (chg : Bool) (s4 s5 s6 s7 s8 s9 s10 s11 : Sl) (O' : Ow), Snd rows nc fd ∧ Grb O pf O' ∧ O1 = oset O' pf (btD fd) ∧ ρ = [DD, .sh (natD nc), .sh (.opq (.ref pf)), .sh (.bl chg), s4, s5, s6, s7, s8, s9, s10, s11] ∧ ((chg = true ∧ m = low rows.length nc fd + 1) ∨ (chg = false ∧ m = 0 ∧ ∀ (r : Nat) (x : Rw), rows[r]? = some x → nrow nc fd r x = fd.getD r [])),
        ⟨_, _, true, _, _, _, _, _, _, _, _, O, Snd.zero, ⟨fun _ _ h => h, nf⟩, rfl, by rw [hDD], .inl ⟨rfl, rfl⟩⟩, ?_⟩
      rintro m ρ O1 ⟨fd, chg, s4, s5, s6, s7, s8, s9, s10, s11, Oa, S, gb0, rfl, rfl, H⟩
      rw [hDD]
      walk_at "go"
      rcases H with ⟨rfl, rfl⟩ | ⟨rfl, rfl, hful⟩
      · walk_at "wh"
        refine ⟨fun ρ O1 => _, fun ρ O1 h => h, ?_⟩
        refine go_st fun N2 hN2 => ?_
        walk_at "go"
        subst hN2
        walk_at "go"
        rw [List.length_map]
        refine ⟨_, RgC.neg (by have := kr.h; omega) (by have := kr.h; omega) (by omega) (by omega), ?_⟩
        dsimp only
        refine go_for (rngC _ _ _) (fun kk ρ O1 => ∃ (fd' : BTab) (chg : Bool) (s4 s5 s6 s7 s8 s9 s10 s11 : Sl) (O' : Ow), Snd rows nc fd' ∧ Grb O pf O' ∧ O1 = oset O' pf (btD fd') ∧ ρ = [DD, .sh (natD nc), .sh (.opq (.ref pf)), .sh (.bl chg), s4, s5, s6, s7, s8, s9, s10, s11] ∧ (chg = false → fd' = fd ∧ ∀ (r : Nat) (x : Rw), rows.length ≤ r + kk → rows[r]? = some x → nrow nc fd r x = fd.getD r []) ∧ (chg = true → low rows.length nc fd' < low rows.length nc fd))
          ⟨fd, false, _, _, _, _, _, _, _, _, Oa, S, gb0, rfl, by rw [hDD], (fun _ => ⟨rfl, fun r x hr hx => by rw [List.getElem?_eq_none (by omega)] at hx; cases hx⟩), (fun h => by cases h)⟩ (fun kk dk hdk ρ O1 hJ N3 hN3 => ?_) (fun ρ O1 hJ => ?_)
        rotate_left
        · obtain ⟨fd', chg, s4, s5, s6, s7, s8, s9, s10, s11, Ob, S', gb, rfl, rfl, h1, h2⟩ := hJ
          have hln : (rngC ((rows.length : Int) - 1) (-1) (((rows.length : Int) - 1) - (-1)).toNat).length = rows.length := by
            simp only [rngC, List.length_map, List.length_range]; omega
          rw [hln] at h1
          cases chg with
          | true => exact ⟨_, by have := h2 rfl; omega, fd', true, _, _, _, _, _, _, _, _, Ob, S', gb, rfl, by rw [hDD], .inl ⟨rfl, rfl⟩⟩
          | false =>
            obtain ⟨rfl, h1⟩ := h1 rfl
            exact ⟨0, Nat.succ_pos _, _, false, _, _, _, _, _, _, _, _, Ob, S', gb, rfl, by rw [hDD], .inr ⟨rfl, rfl, fun r x hx => h1 r x (by omega) hx⟩⟩
        obtain ⟨fd', chg, s4, s5, s6, s7, s8, s9, s10, s11, Ob, S', gb, rfl, rfl, h1, h2⟩ := hJ
        rw [hDD]
        obtain ⟨hk, rfl⟩ := rngC_get hdk
        obtain ⟨r, hr⟩ : ∃ r : Nat, (rows.length : Int) - 1 + (kk : Int) * (-1) = (r : Int) := ⟨((rows.length : Int) - 1 + (kk : Int) * (-1)).toNat, by omega⟩
        rw [hr]
        have hrl2 : r < rows.length := by omega
        have hrk : rows.length = r + kk + 1 := by omega
        obtain ⟨x, hx⟩ : ∃ x, rows[r]? = some x := ⟨_, List.getElem?_eq_getElem hrl2⟩
        have e1 := at_r hx
        have hok : ∀ r' ∈ x.fol r, r' < rows.length := hfol r x hx
        have hce : ∀ c ∈ x.cel, c < nc := hcel x (List.mem_of_getElem? hx)
        walk_at "wh"
        refine go_set (ρ' := [DD, .sh (natD nc), .sh (.opq (.ref pf)), .sh (.bl chg), .sh (natD r), s5, s6, s7, s8, s9, s10, s11]) (by rw [hDD]; rfl) ?_
        rw [hDD]
        refine go_st fun N4 hN4 => ?_
        walk_at "go"
        subst hN4
        refine go_st fun N4 hN4 => ?_
        walk_at "go"
        refine ⟨_, _, rfl, rfl, by omega, by have := kc.h; omega, by rw [Int.toNat_natCast]; exact szk' (by have := kc.h; show 1 * nc ≤ 1000; omega), fun pz npz => ?_⟩
        rw [hf0]
        have zpf : pz ≠ pf := fun e => by rw [e, oset_same] at npz; cases npz
        rw [oset_ne zpf] at npz
        walk_at "go"
        subst hN4
        refine go_st fun N4 hN4 => ?_
        walk_at "go"
        refine spM.of ⟨_, rows, r, x, rfl, by first | exact .inl rfl | exact .inr rfl, hx, ?_⟩
        walk_at "go"
        rw [← accF_nil (nc := nc) (fd := fd')]
        have hfn : ∀ r', r' < rows.length → fd'[r']? = some (fd'.getD r' []) ∧ (fd'.getD r' []).length = nc := fun r' h => by
          have h2 : r' < fd'.length := by rw [S'.ln]; exact h
          have e : fd'.getD r' [] = fd'[r'] := by rw [List.getD_eq_getElem?_getD, List.getElem?_eq_getElem h2]; rfl
          rw [e]
          exact ⟨List.getElem?_eq_getElem h2, S'.lc _ (List.getElem_mem h2)⟩
        have hix : ∀ r', r' < rows.length → atI (fd'.map bls) (r' : Int) = some (bls (fd'.getD r' [])) := fun r' h => atI_nat (by rw [List.getElem?_map, (hfn r' h).1]; rfl)
        clear k
        refine go_for ((x.fol r).map natD) (fun i ρ O1 => ∃ (pz : Addr) (s7 s8 s9 s10 s11 : Sl), pz ≠ pf ∧ Ob pz = none ∧ O1 = oset (oset Ob pf (btD fd')) pz (bls (accF nc fd' ((x.fol r).take i))) ∧ ρ = [DD, .sh (natD nc), .sh (.opq (.ref pf)), .sh (.bl chg), .sh (natD r), .sh x.d, .sh (.opq (.ref pz)), s7, s8, s9, s10, s11])
          ⟨pz, _, _, _, _, _, zpf, npz, rfl, by rw [hDD]⟩ (fun i di hdi ρ O1 hJ N5 hN5 => ?_) (fun ρ O1 hJ => ?_)
        · clear zpf npz pz
          obtain ⟨pz, s7, s8, s9, s10, s11, zpf, npz, rfl, rfl⟩ := hJ
          rw [List.getElem?_map] at hdi
          obtain ⟨r', hr', rfl⟩ := Option.map_eq_some_iff.mp hdi
          have hlt := hok r' (List.mem_of_getElem? hr')
          have e2 := hix r' hlt
          have hl2 := (hfn r' hlt).2
          have et : (x.fol r).take (i + 1) = (x.fol r).take i ++ [r'] := by rw [List.take_succ, hr']; rfl
          refine go_set (ρ' := [DD, .sh (natD nc), .sh (.opq (.ref pf)), .sh (.bl chg), .sh (natD r), .sh x.d, .sh (.opq (.ref pz)), .sh (natD r'), s8, s9, s10, s11]) rfl ?_
          rw [hDD]
          have ez : (oset (oset Ob pf (btD fd')) pz (bls (accF nc fd' ((x.fol r).take i)))) pz = some (bls (accF nc fd' ((x.fol r).take i))) := oset_same
          have eo : odel (oset (oset Ob pf (btD fd')) pz (bls (accF nc fd' ((x.fol r).take i)))) pz = oset Ob pf (btD fd') := odel_oset (by rw [oset_ne zpf]; exact npz)
          walk_at "wh"
          refine go_varF rfl ez ?_
          rw [eo]
          walk_at "go"
          refine go_zipLL ?_
          rw [zip_bls]
          walk_at "wh"
          refine go_lc orF (fun d hd Qy h => ?_) (by rw [List.length_map, List.length_zip]; exact szk' (by rw [accF_len]; have := kc.h; show 0 + min nc _ ≤ 1000; omega)) ?_
          · obtain ⟨p, _, rfl⟩ := List.mem_map.mp hd
            obtain ⟨p1, p2⟩ := p
            cases p1
            · walk_at "go"
              exact h
            · walk_at "go"
              exact h
          rw [List.nil_append]
          change ∀ p : Addr, _
          intro pz2 npz2
          rw [show (((accF nc fd' ((x.fol r).take i)).zip (fd'.getD r' [])).map fun p => D.tup [.bl p.1, .bl p.2]).map orF = (accF nc fd' ((x.fol r).take (i + 1))).map D.bl from by
            rw [et, ← accF_add hl2, List.map_map, List.zip, List.map_zipWith, List.map_zipWith]; rfl]
          have zpf2 : pz2 ≠ pf := fun e => by rw [e, oset_same] at npz2; cases npz2
          rw [oset_ne zpf2] at npz2
          walk_at "go"
          exact hN5 _ _ ⟨pz2, _, _, _, _, _, zpf2, npz2, rfl, by rw [hDD]⟩
        clear zpf npz pz
        obtain ⟨pz, s7, s8, s9, s10, s11, zpf, npz, rfl, rfl⟩ := hJ
        rw [List.length_map, List.take_length]
        rw [hDD]
        subst hN4
        dsimp only
        refine go_st fun N4 hN4 => ?_
        walk_at "go"
        refine spM.of ⟨x, rfl, ?_⟩
        walk_at "go"
        refine go_for (x.sets.map natD) (fun i ρ O1 => ∃ (s7 s8 s9 s10 s11 : Sl), O1 = oset (oset Ob pf (btD fd')) pz (bls (setF false (x.sets.take i) (accF nc fd' (x.fol r)))) ∧ ρ = [DD, .sh (natD nc), .sh (.opq (.ref pf)), .sh (.bl chg), .sh (natD r), .sh x.d, .sh (.opq (.ref pz)), s7, s8, s9, s10, s11])
          ⟨_, _, _, _, _, rfl, by rw [hDD]⟩ (fun i di hdi ρ O1 hJ N5 hN5 => ?_) (fun ρ O1 hJ => ?_)
        · obtain ⟨s7, s8, s9, s10, s11, rfl, rfl⟩ := hJ
          rw [List.getElem?_map] at hdi
          obtain ⟨c, hc, rfl⟩ := Option.map_eq_some_iff.mp hdi
          have hcn := hce c (sets_cel (List.mem_of_getElem? hc))
          refine go_set (ρ' := [DD, .sh (natD nc), .sh (.opq (.ref pf)), .sh (.bl chg), .sh (natD r), .sh x.d, .sh (.opq (.ref pz)), s7, .sh (natD c), s9, s10, s11]) rfl ?_
          walk_at "go"
          refine go_lput (i := c) oset_same (by rw [List.length_map, setF_len, accF_len]; exact hcn) ?_
          dsimp only
          rw [oset_oset]
          have e3 : (bls (setF false (x.sets.take (i + 1)) (accF nc fd' (x.fol r)))) = .lst (((setF false (x.sets.take i) (accF nc fd' (x.fol r))).map D.bl).set c (.bl false)) := by
            rw [show x.sets.take (i + 1) = x.sets.take i ++ [c] by rw [List.take_succ, hc]; rfl, setF_snoc]
            unfold bls
            rw [List.map_set]
          rw [← e3]
          exact hN5 _ _ ⟨_, _, _, _, _, rfl, rfl⟩
        obtain ⟨s7, s8, s9, s10, s11, rfl, rfl⟩ := hJ
        rw [List.length_map, List.take_length]
        rw [hDD]
        subst hN4
        dsimp only
        refine go_st fun N4 hN4 => ?_
        walk_at "go"
        refine spM.of ⟨x, rfl, ?_⟩
        walk_at "go"
        refine go_for (x.uses.map natD) (fun i ρ O1 => ∃ (s7 s8 s9 s10 s11 : Sl), O1 = oset (oset Ob pf (btD fd')) pz (bls (setF true (x.uses.take i) (setF false x.sets (accF nc fd' (x.fol r))))) ∧ ρ = [DD, .sh (natD nc), .sh (.opq (.ref pf)), .sh (.bl chg), .sh (natD r), .sh x.d, .sh (.opq (.ref pz)), s7, s8, s9, s10, s11])
          ⟨_, _, _, _, _, rfl, by rw [hDD]⟩ (fun i di hdi ρ O1 hJ N5 hN5 => ?_) (fun ρ O1 hJ => ?_)
        · obtain ⟨s7, s8, s9, s10, s11, rfl, rfl⟩ := hJ
          rw [List.getElem?_map] at hdi
          obtain ⟨c, hc, rfl⟩ := Option.map_eq_some_iff.mp hdi
          have hcn := hce c (uses_cel (List.mem_of_getElem? hc))
          refine go_set (ρ' := [DD, .sh (natD nc), .sh (.opq (.ref pf)), .sh (.bl chg), .sh (natD r), .sh x.d, .sh (.opq (.ref pz)), s7, .sh (natD c), s9, s10, s11]) rfl ?_
          walk_at "go"
          refine go_lput (i := c) oset_same (by rw [List.length_map, setF_len, setF_len, accF_len]; exact hcn) ?_
          dsimp only
          rw [oset_oset]
          have e3 : (bls (setF true (x.uses.take (i + 1)) (setF false x.sets (accF nc fd' (x.fol r))))) = .lst (((setF true (x.uses.take i) (setF false x.sets (accF nc fd' (x.fol r)))).map D.bl).set c (.bl true)) := by
            rw [show x.uses.take (i + 1) = x.uses.take i ++ [c] by rw [List.take_succ, hc]; rfl, setF_snoc]
            unfold bls
            rw [List.map_set]
          rw [← e3]
          exact hN5 _ _ ⟨_, _, _, _, _, rfl, rfl⟩
        obtain ⟨s7, s8, s9, s10, s11, rfl, rfl⟩ := hJ
        rw [List.length_map, List.take_length, nrow_eq]
        rw [hDD]
        subst hN4
        dsimp only
        have ez : (oset (oset Ob pf (btD fd')) pz (bls (nrow nc fd' r x))) pz = some (bls (nrow nc fd' r x)) := oset_same
        have eo : odel (oset (oset Ob pf (btD fd')) pz (bls (nrow nc fd' r x))) pz = oset Ob pf (btD fd') := odel_oset (by rw [oset_ne zpf]; exact npz)
        have e4 := hix r hrl2
        walk_at "go"
        refine go_neH ez ?_
        walk_at "go"
        by_cases heq : nrow nc fd' r x = fd'.getD r []
        · refine go_bcF (by rw [decide_eq_true heq]; rfl) ?_
          walk_at "go"
          refine hN3 _ _ ⟨fd', chg, _, _, _, _, _, _, _, _, _, S', gb.add zpf npz, oset_comm zpf, by rw [hDD], fun hc => ?_, h2⟩
          obtain ⟨rfl, h1⟩ := h1 hc
          refine ⟨rfl, fun r2 x2 hr2 hx2 => ?_⟩
          rcases Nat.lt_or_ge r2 (r + 1) with h | h
          · have : r2 = r := by omega
            subst this
            rw [hx] at hx2; cases hx2
            exact heq
          · exact h1 r2 x2 (by omega) hx2
        · refine go_bcT (by rw [decide_eq_false heq]; rfl) ?_
          walk_at "go"
          rw [eo]
          refine go_lput (i := r) oset_same (by rw [List.length_map, S'.ln]; exact hrl2) ?_
          dsimp only
          rw [oset_oset]
          have e5 : (.lst ((fd'.map bls).set r (bls (nrow nc fd' r x))) : D) = btD (fd'.set r (nrow nc fd' r x)) := by
            unfold btD
            rw [List.map_set]
          have lt := low_lt S' hx hrl2 heq
          walk_at "go"
          refine hN3 _ _ ⟨fd'.set r (nrow nc fd' r x), true, _, _, _, _, _, _, _, _, Ob, S'.up hx hrl2, gb, by rw [← e5], by rw [hDD], (fun h => by cases h), fun _ => ?_⟩
          cases chg with
          | true => have := h2 rfl; omega
          | false =>
            obtain ⟨rfl, _⟩ := h1 rfl
            exact lt
      · walk_at "wh"
        subst hN
        walk_at "go"
        rw [S.eq hful, odel_oset gb0.np]
        exact ⟨O, gb0.sub, k⟩
def enF : D → Option D
  | .tup [.int i, .bl b] => if b = true then some (.int i) else none
  | _ => none
def nedF : D → List D
  | .lst bs => (enumL bs).filterMap enF
  | _ => []
theorem go_enum {xs : List D} {Q : IL → Prop} (h : Q (tt1, enumL xs)) : enumD [.lst xs] Q := h
theorem enum_bls (bs : List Bool) {d : D} (h : d ∈ enumL (bs.map D.bl)) : ∃ (i : Nat) (b : Bool), d = .tup [.int i, .bl b] := by
  unfold enumL at h
  obtain ⟨p, hp, rfl⟩ := List.mem_map.mp h
  obtain ⟨x, i⟩ := p
  have := List.fst_mem_of_mem_zipIdx hp
  obtain ⟨b, _, hb⟩ := List.mem_map.mp this
  exact ⟨i, b, by rw [← hb]⟩
theorem fm_if (g : Nat → Bool) : ∀ l : List Nat, l.filterMap (fun c => if g c = true then some (natD c) else none) = (l.filter g).map natD
  | [] => rfl
  | c :: l => by
    rw [List.filterMap_cons, List.filter_cons]
    cases e : g c with
    | true => simp only [if_true, List.map_cons]; rw [fm_if g l]
    | false => simp only [Bool.false_eq_true, if_false]; rw [fm_if g l]
theorem nedF_rng (g : Nat → Bool) (nc : Nat) : nedF (bls ((List.range nc).map g)) = ((List.range nc).filter g).map natD := by
  show ((((List.range nc).map g).map D.bl).zipIdx.map fun p => D.tup [.int p.2, p.1]).filterMap enF = _
  have e : (((List.range nc).map g).map D.bl).zipIdx = (List.range nc).map fun c => (D.bl (g c), c) := by
    apply List.ext_getElem?
    intro c
    rw [List.getElem?_zipIdx, List.getElem?_map, List.getElem?_map, List.getElem?_map]
    by_cases hc : c < nc
    · rw [List.getElem?_range hc]; simp
    · rw [List.getElem?_eq_none (by rw [List.length_range]; omega)]; rfl
  rw [e, List.map_map, List.filterMap_map, ← fm_if]
  rfl
noncomputable def ndL (rows : List Rw) (nc r : Nat) : List Nat := (List.range nc).filter fun c => ndB rows c r
/-- a list of lists, both one's own -/
def neededS (C : Addr) : DSp := fun ds O Q _ => ∃ (cs : List D) (inp : D) (rows : List Rw) (nc : Nat), ds = [.ins C (rdF cs (rows.map Rw.d) inp)] ∧ cs.length = nc ∧ nc ≤ 300 ∧ rows.length ≤ 900 ∧ (∀ x ∈ rows, ∀ c ∈ x.cel, c < nc) ∧ (∀ (r : Nat) (x : Rw), rows[r]? = some x → ∀ r' ∈ x.fol r, r' < rows.length) ∧
  ∀ (f : Addr) (l : List (Addr × List D)) (O1 : Ow), Deep O1 f l → O f = none → (∀ x ∈ l, O x.1 = none) → (∀ a, a ∉ deepA f l → O1 a = O a) → l.map (·.2) = (List.range rows.length).map (fun r => (ndL rows nc r).map natD) → Q (.opq (.ref f)) O1
theorem ok_needed {f fN C : Addr} {fd fdN : FuncData} (F : Fun K "needed" "needed" s_needed f fd)
    (G_needs : FnOk P w K mg base CX0 3 fN fdN ["reader_rows", "cells"] (spD K needsS)) (T_needs : Gf K mg "needs" fN fdN ["reader_rows", "cells"])
    (CL_Reader : Cls K C) (NA_Reader_rows : NoAttr K C "rows") (NA_Reader_cells : NoAttr K C "cells") (m_enumerate : mg "enumerate" = none) (m_len : mg "len" = none) :
    FnOk P w K mg base CX0 4 f fd ["reader"] (spD K (neededS C)) := by
  refine fn_pure F sc_needed (fun ds O Q E h => ?_) (fun cdv A outer s H E hr =>
    (d_sone (d_ret (d_lcO rfl sc_needed.nd (d_iter (d_call G_needs (hr.mono (by decide)) rfl T_needs.m T_needs.k T_needs.b (fun _ => pass0A) (d_cons (d_fld CL_Reader NA_Reader_rows (d_var (i := 0) rfl (.inl rfl) (by decide) (by decide)) rfl) (d_cons (d_callB cd_len rfl m_len boot_len (d_cons (d_fld CL_Reader NA_Reader_cells (d_var (i := 0) rfl (.inl rfl) (by decide) (by decide)) rfl) d_nil rfl) (by decide) (by decide) rfl rfl) d_nil rfl) rfl) (by decide) rfl rfl)) (blkOk_by (own := [("told", 1)]) (N := N_needed) (sc := defScope s_needed) (by decide +kernel)) (fun _ _ _ _ _ => (dg_name (i := 1) sc_needed.nd rfl (.inl rfl) (.inr rfl))) (fun _ _ _ _ _ => d_ifs0) (fun _ _ _ _ _ => (d_lcO rfl sc_needed.nd (d_enum rfl m_enumerate (d_cons (d_var (i := 1) rfl (.inl rfl) (by decide) (by decide)) d_nil rfl) rfl) (blkOk_by (own := [("cell", 2), ("need", 3)]) (N := N_needed) (sc := _) (by kernel_rfl)) (fun _ _ _ _ _ => (dg_tup (n := 2) rfl (dgs_cons (dg_name (i := 2) sc_needed.nd rfl (.inl rfl) (.inr rfl)) (dgs_cons (dg_name (i := 3) sc_needed.nd rfl (.inl rfl) (.inr rfl)) dgs_nil rfl) rfl) rfl rfl)) (fun _ _ _ _ _ => (d_ifs1 (d_test (d_var (i := 3) rfl (.inl rfl) (by decide) (by decide)) (by intro _; rfl)))) (fun _ _ _ _ _ => (d_var (i := 2) rfl (.inl rfl) (by decide) (by decide))) (by decide +kernel) (fun _ => rfl))) (by decide +kernel) (fun _ => rfl))))) (fun ds O Q E h => ?_) (fun ds O Q E h => h)
  · obtain ⟨cs, inp, rows, nc, rfl, _⟩ := h; rfl
  · obtain ⟨cs, inp, rows, nc, rfl, hcs, hnc, hrl, hcel, hfol, k⟩ := h
    rw [show startD N_needed [.ins C (rdF cs (rows.map Rw.d) inp)] = [.sh (.ins C (rdF cs (rows.map Rw.d) inp)), .un, .un, .un] from rfl]
    walk_at "go"
    refine spM.of ⟨_, rows, nc, by rw [hcs], .inr rfl, hnc, hrl, hcel, hfol, ?_⟩
    walk_at "go"
    change lcW tt1 _ _ _ _ ((ndT rows nc).map bls) [] _ _
    have hnl : (ndT rows nc).length = rows.length := by unfold ndT; rw [List.length_map, List.length_range]
    refine lcW_own nedF (fun d hd O1 Qy Qs h => ?_) (szk' (by rw [List.length_map, hnl]; show 0 + _ ≤ 1000; omega)) fun l e nd ho => ?_
    · obtain ⟨bs, hbs, rfl⟩ := List.mem_map.mp hd
      have hbl : bs.length ≤ 300 := by
        unfold ndT at hbs
        obtain ⟨r, _, rfl⟩ := List.mem_map.mp hbs
        rw [List.length_map, List.length_range]; exact hnc
      unfold elW
      walk_at "go"
      refine go_enum ?_
      walk_at "wh"
      refine lcW_fm (I := tt1) trivial enF (fun d hd Qy2 Qs2 q1 q2 => ?_) (by rw [show ((tt1, enumL (bs.map D.bl)) : IL).2 = enumL (bs.map D.bl) from rfl]; unfold enumL; rw [List.length_map, List.length_zipIdx, List.length_map]; exact szk' (by show 0 + _ ≤ 1000; omega)) ?_
      · obtain ⟨i, b, rfl⟩ := enum_bls bs hd
        unfold elW
        cases b
        · walk_at "go"
          exact q2 rfl
        · walk_at "go"
          exact q1 _ rfl
      · intro p np
        exact h p np
    · intro p np
      have nf : p ∉ l.map (·.1) := fun hm => by
        obtain ⟨x, hx, e⟩ := List.mem_map.mp hm
        rw [← e, ownL_in nd x hx] at np; cases np
      rw [ownL_out nf] at np
      rw [List.nil_append]
      refine k p l _ (ownL_deep nd nf) np ho (fun a ha => ?_) ?_
      · rw [List.mem_cons, not_or] at ha
        rw [oset_ne ha.1, ownL_out ha.2]
      · rw [e]
        unfold ndT ndL
        rw [List.map_map, List.map_map]
        exact List.map_congr_left fun r _ => nedF_rng _ nc
end
end LW
set_option Elab.async false
set_option linter.all false
set_option maxRecDepth 100000
set_option maxHeartbeats 4000000
set_option pp.maxSteps 900
namespace LW
open PySem PySem.Spec PyProof.Rows L2 EV PySem.XO PySem.W LamX
local macro_rules | `(tactic| walk_at "fd") => `(tactic| first | assumption | rfl)
local macro_rules | `(tactic| walk_at "ow") => `(tactic| first | assumption | exact oset_self | (rw [oset_ne (by assumption)]; walk_at "ow") | (rw [oset_ne (Ne.symm (by assumption))]; walk_at "ow"))
local macro_rules | `(tactic| walk_at "ix") => `(tactic| first | exact EV.ga0 | exact EV.ga1 | exact EV.ga2 | exact EV.ga3 | exact EV.ga4 | exact EV.ga5 | exact EV.ga6 | exact EV.ga7 | exact EV.ga8 | exact EV.ga9 | exact EV.ga10 | exact EV.ga11 | exact EV.ga12 | exact EV.ga13 | exact EV.ga14 | exact EV.ga15 | assumption | rfl)
local macro_rules | `(tactic| walk_at "sz") => `(tactic| first | exact trivial | (with_reducible assumption) | omega | ((with_reducible refine szR ?_); exact rfl) | ((with_reducible refine szk' ?_); omega) | ((with_reducible refine szl ?_); omega) | exact szlt rfl | rfl | exact ⟨rfl, by assumption⟩ | exact ⟨rfl, rfl⟩ | exact ⟨_, rfl⟩ | ((with_reducible refine szk' ?_); simp only [List.length_cons, List.length_nil, List.length_append, List.length_map]; omega) | (unfold CMul; omega) | (unfold CDiv; omega) | (unfold CPow; exact ⟨by omega, by omega, by omega⟩) | (constructor; · omega; · omega))
local macro_rules | `(tactic| walk_at "val") => `(tactic| first | assumption | exact rfl)
local macro_rules | `(tactic| walk_at "ty") => `(tactic| first | assumption | exact rfl)
local macro_rules | `(tactic| walk_at "bt") => `(tactic| first | exact rfl | assumption)
local macro_rules | `(tactic| walk_at "n") => `(tactic| refine st_norm (by simp only [List.set_cons_succ, List.set_cons_zero]; rfl) ?_)
local macro_rules | `(tactic| walk_at "wh") => `(tactic| with_reducible conv => whnf)
local macro_rules | `(tactic| walk_at "call") => `(tactic| fail)
local macro_rules | `(tactic| walk_at "go1") => `(tactic| first
  | ((with_reducible apply go_var); (· exact rfl))
  | ((with_reducible apply go_varF); (· exact rfl); (· walk_at "ow"))
  | ((with_reducible apply go_set); (· (simp only [wipeD, List.map_cons, List.map_nil, List.set_cons_succ, List.set_cons_zero]; rfl)))
  | ((with_reducible apply go_fld); (· walk_at "fd"))
  | ((with_reducible apply go_fldH); (· walk_at "ow"); (· walk_at "fd"))
  | ((with_reducible apply go_ixT); (· walk_at "ix"))
  | ((with_reducible apply go_ixL); (· walk_at "ix"))
  | ((with_reducible apply go_ixH); (· walk_at "ow"); (· walk_at "ix"))
  | ((with_reducible apply go_bcT); (· walk_at "bt"))
  | ((with_reducible apply go_bcF); (· walk_at "bt"))
  | ((with_reducible apply go_methH); (· walk_at "ow"); (· walk_at "fd"))
  | ((with_reducible apply And.intro); (· walk_at "sz"))
  | ((with_reducible apply go_lm); (· walk_at "ow"))
  | ((with_reducible apply go_lm2); (· walk_at "ow"))
  | ((with_reducible apply go_app); (· walk_at "sz"))
  | ((with_reducible apply go_ext); (· walk_at "sz"))
  | ((with_reducible apply go_setF); (· walk_at "ow"))
  | ((with_reducible apply go_frz); (· walk_at "ow"))
  | ((with_reducible apply go_atK); (· walk_at "val"))
  | ((with_reducible apply go_atS); (· walk_at "val"))
  | ((with_reducible apply go_atI); (· walk_at "val"))
  | ((with_reducible apply go_atHK); (· walk_at "ow"); (· walk_at "val"))
  | ((with_reducible apply go_atHS); (· walk_at "ow"); (· walk_at "val"))
  | ((with_reducible apply go_dputS); (· walk_at "ow"); (· walk_at "sz"))
  | ((with_reducible apply go_dputK); (· walk_at "ow"); (· walk_at "sz"))
  | (with_reducible apply go_eqI)
  | (with_reducible apply go_eqS)
  | (with_reducible apply go_eqB)
  | (with_reducible apply go_neg)
  | (with_reducible apply go_lenL)
  | (with_reducible apply go_lenT)
  | ((with_reducible apply go_lenS); (· walk_at "sz"))
  | ((with_reducible apply go_lenH); (· walk_at "ow"))
  | (with_reducible apply go_tupL)
  | (with_reducible apply go_tupT)
  | ((with_reducible apply go_tupH); (· walk_at "ow"))
  | (with_reducible apply go_listL)
  | (with_reducible apply go_listT)
  | ((with_reducible apply go_listH); (· walk_at "ow"))
  | (with_reducible apply go_all)
  | (with_reducible apply go_any)
  | ((with_reducible apply go_isi); (· exact rfl); (· walk_at "ty"); (· walk_at "val"))
  | ((with_reducible apply go_inS); (· exact rfl))
  | ((with_reducible apply go_inSL); (· exact rfl))
  | ((with_reducible apply go_sortS); (· walk_at "sz"))
  | (with_reducible apply go_own)
  | (with_reducible apply go_pnil)
  | (with_reducible apply go_pcons)
  | ((with_reducible apply go_lcNil); (· exact trivial))
  | (with_reducible apply go_lcCons)
  | (with_reducible apply go_min2)
  | walk_at "call")
local macro_rules | `(tactic| walk_at "go") => `(tactic| (walk_at "wh"; repeat (walk_at "go1"; walk_at "wh")))
local macro_rules | `(tactic| walk_at "all") => `(tactic| (walk_at "wh"; repeat ((first | walk_at "go1" | (with_reducible refine go_st fun _ _ => ?_) | (with_reducible apply goN; (· assumption))); walk_at "wh")))
local macro_rules | `(tactic| walk_at "call") => `(tactic| first | ((with_reducible apply goR_inK); (· exact rfl)) | ((with_reducible apply goR_ixK); (· exact rfl)))
abbrev s_lfollowing : Stmt := topS 46
abbrev N_lfollowing : List Str := ["_law_rows", "_law_at", "_law_step_here"]
theorem sc_lfollowing : FnScope N_lfollowing ["_law_rows", "_law_at"] (defScope s_lfollowing) := ⟨rfl, rfl, rfl, by decide +kernel, rfl, by decide +kernel, by decide +kernel⟩
abbrev s_used : Stmt := topS 47
abbrev N_used : List Str := ["_law_step_here"]
theorem sc_used : FnScope N_used ["_law_step_here"] (defScope s_used) := ⟨rfl, rfl, rfl, by decide +kernel, rfl, by decide +kernel, by decide +kernel⟩
abbrev s_sets : Stmt := topS 48
abbrev N_sets : List Str := ["_law_step_here"]
theorem sc_sets : FnScope N_sets ["_law_step_here"] (defScope s_sets) := ⟨rfl, rfl, rfl, by decide +kernel, rfl, by decide +kernel, by decide +kernel⟩
abbrev s_lneeded : Stmt := topS 49
abbrev N_lneeded : List Str := ["_law_rows", "_law_cells", "_law_found", "_law_ahead", "_law_cell", "_law_waiting", "_law_known", "_law_k", "_law_at", "_law_fresh", "_law_before", "_law_step_here"]
theorem sc_lneeded : FnScope N_lneeded ["_law_rows", "_law_cells"] (defScope s_lneeded) := ⟨rfl, rfl, rfl, by decide +kernel, rfl, by decide +kernel, by decide +kernel⟩
theorem sl4 {x0 x1 x2 x3 : D} {R : D → Prop} (h : R (.tup [x2])) : slD (.tup [x0, x1, x2, x3]) (some 2) (some (-1)) R := ⟨(by decide : ¬ (HT.sIx 4 0 (some 2) = 0 ∧ HT.sIx 4 4 (some (-1)) = 4)), h⟩
theorem sl5 {x0 x1 x2 x3 x4 : D} {R : D → Prop} (h : R (.tup [x2, x3])) : slD (.tup [x0, x1, x2, x3, x4]) (some 2) (some (-1)) R := ⟨(by decide : ¬ (HT.sIx 5 0 (some 2) = 0 ∧ HT.sIx 5 5 (some (-1)) = 5)), h⟩
section
variable {P : Program} {w : World} {K : PySem.W.Frag} {mg : Str → Option Value} {base : Heap}
theorem ok_lsets {f : Addr} {fd : FuncData} (F : Fun K "_law_sets" "_law_sets" s_sets f fd) : FnOk P w K mg base CX0 1 f fd ["_law_step_here"] (spD K setS) := by
  refine fn_pure F sc_sets (fun ds O Q E h => ?_) (fun cdv A outer s H E hr =>
    (d_sone (d_ret (d_if (d_tcmp od_inS (d_ix (d_var (i := 0) rfl (.inl rfl) (by decide) (by decide)) d_int (fun _ _ => rfl)) (d_tup (d_cons d_str (d_cons d_str (d_cons d_str (d_cons d_str (d_cons d_str d_nil rfl) rfl) rfl) rfl) rfl)) rfl) (d_lst (d_cons (d_ix (d_var (i := 0) rfl (.inl rfl) (by decide) (by decide)) d_int (fun _ _ => rfl)) d_nil rfl)) (d_lst d_nil))))) (fun ds O Q E h => ?_) (fun ds O Q E h => h)
  · obtain ⟨x, rfl, _⟩ := h; rfl
  · obtain ⟨x, rfl, k⟩ := h
    rw [show startD N_sets [x.d] = [.sh x.d] from rfl]
    cases x
    all_goals
      simp only [Rw.d]
      walk_at "go"
      repeat ((first | refine go_bcT (by decide +kernel) ?_ | refine go_bcF (by decide +kernel) ?_); walk_at "go")
      exact k
theorem ok_lfol {f : Addr} {fd : FuncData} (F : Fun K "_law_following" "_law_following" s_lfollowing f fd) :
    FnOk P w K mg base CX0 1 f fd ["_law_rows", "_law_at"] (spD K folS) := by
  refine fn_pure F sc_lfollowing (fun ds O Q E h => ?_) (fun cdv A outer s H E hr =>
    (d_scons (d_set (i := 2) sc_lfollowing.nd rfl (.inl rfl) (d_ix (d_var (i := 0) rfl (.inl rfl) (by decide) (by decide)) (d_var (i := 1) rfl (.inl rfl) (by decide) (by decide)) (fun _ _ => rfl)) rfl (.inl rfl))
      (d_scons (d_ifS (d_tcmp (od_eq hr.units) (d_ix (d_var (i := 2) rfl (.inl rfl) (by decide) (by decide)) d_int (fun _ _ => rfl)) d_str (nomark _)) (d_sone (d_ret (d_lst (d_cons (d_ix (d_var (i := 2) rfl (.inl rfl) (by decide) (by decide)) d_int (fun _ _ => rfl)) d_nil rfl)))) d_snil)
      (d_scons (d_ifS (d_tcmp od_inS (d_ix (d_var (i := 2) rfl (.inl rfl) (by decide) (by decide)) d_int (fun _ _ => rfl)) (d_tup (d_cons d_str (d_cons d_str d_nil rfl) rfl)) rfl) (d_sone (d_ret (d_lst d_nil))) d_snil)
      (d_sone (d_ret (d_if (d_tcmp od_inS (d_ix (d_var (i := 2) rfl (.inl rfl) (by decide) (by decide)) d_int (fun _ _ => rfl)) (d_tup (d_cons d_str (d_cons d_str (d_cons d_str (d_cons d_str d_nil rfl) rfl) rfl) rfl)) rfl) (d_lst (d_cons (d_op od_add (d_var (i := 1) rfl (.inl rfl) (by decide) (by decide)) d_int) (d_cons (d_ix (d_var (i := 2) rfl (.inl rfl) (by decide) (by decide)) (d_neg d_int) (fun _ _ => rfl)) d_nil rfl) rfl)) (d_lst (d_cons (d_op od_add (d_var (i := 1) rfl (.inl rfl) (by decide) (by decide)) d_int) d_nil rfl))))))))) (fun ds O Q E h => ?_) (fun ds O Q E h => h)
  · obtain ⟨d, rows, r, x, rfl, _⟩ := h; rfl
  · obtain ⟨d, rows, r, x, rfl, hd, hx, k⟩ := h
    rw [show startD N_lfollowing [d, natD r] = [.sh d, .sh (natD r), .un] from rfl]
    have e1 := at_r hx
    rcases hd with rfl | rfl
    all_goals
      cases x
      all_goals
        simp only [Rw.d] at e1
        refine go_st fun N hN => ?_
        walk_at "go"
        subst hN
        walk_at "go"
        repeat ((first | refine go_bcT (by decide +kernel) ?_ | refine go_bcF (by decide +kernel) ?_); walk_at "go")
        exact k
theorem ok_lused {f : Addr} {fd : FuncData} (F : Fun K "_law_used" "_law_used" s_used f fd) (m_list : mg "list" = none) : FnOk P w K mg base CX0 1 f fd ["_law_step_here"] (spD K useS) := by
  refine fn_pure F sc_used (fun ds O Q E h => ?_) (fun cdv A outer s H E hr =>
    (d_scons (d_ifS (d_tcmp od_inS (d_ix (d_var (i := 0) rfl (.inl rfl) (by decide) (by decide)) d_int (fun _ _ => rfl)) (d_tup (d_cons d_str (d_cons d_str d_nil rfl) rfl)) rfl) (d_sone (d_ret (d_lst (d_cons (d_ix (d_var (i := 0) rfl (.inl rfl) (by decide) (by decide)) d_int (fun _ _ => rfl)) (d_cons (d_ix (d_var (i := 0) rfl (.inl rfl) (by decide) (by decide)) d_int (fun _ _ => rfl)) d_nil rfl) rfl)))) d_snil)
      (d_scons (d_ifS (d_tcmp od_inS (d_ix (d_var (i := 0) rfl (.inl rfl) (by decide) (by decide)) d_int (fun _ _ => rfl)) (d_tup (d_cons d_str (d_cons d_str d_nil rfl) rfl)) rfl) (d_sone (d_ret (d_callTy cd_list rfl m_list boot_list (d_cons (d_sl (d_var (i := 0) rfl (.inl rfl) (by decide) (by decide)) (d_part d_int) (d_part (d_neg d_int))) d_nil rfl) (by decide) (by decide) rfl rfl))) d_snil)
      (d_sone (d_ret (d_if (d_tcmp (od_eq hr.units) (d_ix (d_var (i := 0) rfl (.inl rfl) (by decide) (by decide)) d_int (fun _ _ => rfl)) d_str (nomark _)) (d_lst (d_cons (d_ix (d_var (i := 0) rfl (.inl rfl) (by decide) (by decide)) d_int (fun _ _ => rfl)) d_nil rfl)) (d_if (d_tcmp (od_eq hr.units) (d_ix (d_var (i := 0) rfl (.inl rfl) (by decide) (by decide)) d_int (fun _ _ => rfl)) d_str (nomark _)) (d_lst (d_cons (d_ix (d_var (i := 0) rfl (.inl rfl) (by decide) (by decide)) d_int (fun _ _ => rfl)) d_nil rfl)) (d_lst d_nil)))))))) (fun ds O Q E h => ?_) (fun ds O Q E h => h)
  · obtain ⟨x, rfl, _⟩ := h; rfl
  · obtain ⟨x, rfl, k⟩ := h
    rw [show startD N_used [x.d] = [.sh x.d] from rfl]
    cases x
    all_goals
      simp only [Rw.d]
      walk_at "go"
      repeat ((first | refine go_bcT (by decide +kernel) ?_ | refine go_bcF (by decide +kernel) ?_); walk_at "go")
      first
        | exact k
        | (refine sl4 ?_
           walk_at "go"
           exact k)
        | (refine sl5 ?_
           walk_at "go"
           exact k)
end
end LW
set_option Elab.async false
set_option linter.all false
set_option maxRecDepth 100000
set_option maxHeartbeats 4000000
set_option pp.maxSteps 900
namespace LW
open PySem PySem.Spec PyProof.Rows L2 EV PySem.XO PySem.W LamX
/-- what may lie about beside a list of lists -/
structure JD (O : Ow) (f : Addr) (l : List (Addr × List D)) (O1 : Ow) : Prop where
  d : Deep O1 f l
  sub : ∀ a e, O a = some e → O1 a = some e
  df : ∀ a ∈ deepA f l, O a = none
theorem _root_.EV.Deep.some {O : Ow} {f : Addr} {l : List (Addr × List D)} (h : Deep O f l) : ∀ a ∈ deepA f l, O a ≠ none := fun a ha => by
  rcases List.mem_cons.mp ha with rfl | ha
  · rw [h.hd]; exact Option.some_ne_none _
  · obtain ⟨x, hx, rfl⟩ := List.mem_map.mp ha
    rw [h.o x hx]; exact Option.some_ne_none _
theorem _root_.EV.Deep.keep {O O' : Ow} {f : Addr} {l : List (Addr × List D)} (h : Deep O f l) (e : ∀ a ∈ deepA f l, O' a = O a) : Deep O' f l :=
  ⟨by rw [e f List.mem_cons_self]; exact h.hd, h.nd, h.nf, fun x hx => by rw [e x.1 (List.mem_cons_of_mem _ (List.mem_map_of_mem hx))]; exact h.o x hx⟩
theorem JD.add {O O1 : Ow} {f z : Addr} {l : List (Addr × List D)} {d : D} (h : JD O f l O1) (n : O1 z = none) : JD O f l (oset O1 z d) :=
  ⟨h.d.keep fun a ha => oset_ne fun e => h.d.some a ha (by rw [e]; exact n), fun a e ha => by
    have h2 := h.sub a e ha
    rw [oset_ne (fun z' => by rw [z', n] at h2; cases h2)]; exact h2, h.df⟩
theorem JD.put {O O1 : Ow} {f z : Addr} {l : List (Addr × List D)} {d : D} (h : JD O f l O1) (n : O z = none) (m : z ∉ deepA f l) : JD O f l (oset O1 z d) :=
  ⟨h.d.keep fun a ha => oset_ne fun e => m (by rw [← e]; exact ha), fun a e ha => by
    rw [oset_ne (fun z' => by rw [z', n] at ha; cases ha)]; exact h.sub a e ha, h.df⟩
theorem JD.del {O O1 : Ow} {f z : Addr} {l : List (Addr × List D)} (h : JD O f l O1) (n : O z = none) (m : z ∉ deepA f l) : JD O f l (odel O1 z) :=
  ⟨h.d.keep fun a ha => odel_ne fun e => m (by rw [← e]; exact ha), fun a e ha => by
    rw [odel_ne (fun z' => by rw [z', n] at ha; cases ha)]; exact h.sub a e ha, h.df⟩
theorem JD.new {O O1 : Ow} {f z : Addr} {l : List (Addr × List D)} (h : JD O f l O1) (n : O1 z = none) : O z = none ∧ z ∉ deepA f l := by
  refine ⟨?_, fun hm => h.d.some z hm n⟩
  cases e : O z with
  | none => rfl
  | some d => rw [h.sub z d e] at n; cases n
theorem nodup_idx {α : Type} : ∀ {l : List α} {i j : Nat} {a : α}, l.Nodup → l[i]? = some a → l[j]? = some a → i = j
  | [], _, _, _, _, h, _ => by cases h
  | x :: l, 0, 0, _, _, _, _ => rfl
  | x :: l, 0, j + 1, a, nd, h1, h2 => by
    rw [List.nodup_cons] at nd
    cases h1
    exact absurd (List.mem_of_getElem? (show l[j]? = some x from h2)) nd.1
  | x :: l, i + 1, 0, a, nd, h1, h2 => by
    rw [List.nodup_cons] at nd
    cases h2
    exact absurd (List.mem_of_getElem? (show l[i]? = some x from h1)) nd.1
  | x :: l, i + 1, j + 1, a, nd, h1, h2 => by
    rw [List.nodup_cons] at nd
    rw [nodup_idx nd.2 h1 h2]
theorem map_set_fst {l : List (Addr × List D)} {i : Nat} {x : Addr × List D} {ds : List D} (h : l[i]? = some x) : (l.set i (x.1, ds)).map (·.1) = l.map (·.1) := by
  rw [List.map_set]
  apply List.ext_getElem?
  intro j
  by_cases e : i = j
  · subst e
    have hi : i < (l.map (·.1)).length := by
      rw [List.length_map]
      rcases Nat.lt_or_ge i l.length with h' | h'
      · exact h'
      · rw [List.getElem?_eq_none h'] at h; cases h
    rw [List.getElem?_set_self hi, List.getElem?_map, h]; rfl
  · rw [List.getElem?_set_ne e]
theorem JD.up {O O1 : Ow} {f : Addr} {l : List (Addr × List D)} (h : JD O f l O1) {i : Nat} {x : Addr × List D} {ds : List D} (hx : l[i]? = some x) : JD O f (l.set i (x.1, ds)) (oset O1 x.1 (.lst ds)) := by
  have hm := List.mem_of_getElem? hx
  have ef := map_set_fst (ds := ds) hx
  have xf : x.1 ≠ f := fun e => h.d.nf (by rw [← e]; exact List.mem_map_of_mem hm)
  have xO : O x.1 = none := h.df _ (List.mem_cons_of_mem _ (List.mem_map_of_mem hm))
  refine ⟨⟨?_, by rw [ef]; exact h.d.nd, by rw [ef]; exact h.d.nf, fun y hy => ?_⟩, fun a e ha => ?_, fun a ha => h.df a (by rw [show deepA f (l.set i (x.1, ds)) = deepA f l by unfold deepA; rw [ef]] at ha; exact ha)⟩
  · rw [oset_ne (Ne.symm xf), h.d.hd]
    have : (l.set i (x.1, ds)).map (fun x => D.opq (.ref x.1)) = l.map (fun x => D.opq (.ref x.1)) := by
      have := congrArg (fun z : List Addr => z.map fun a => D.opq (V.ref a)) ef
      rw [List.map_map, List.map_map] at this
      exact this
    rw [this]
  · obtain ⟨j, hj⟩ := List.getElem?_of_mem hy
    by_cases e : i = j
    · subst e
      have hi : i < l.length := by
        rcases Nat.lt_or_ge i l.length with h' | h'
        · exact h'
        · rw [List.getElem?_eq_none h'] at hx; cases hx
      rw [List.getElem?_set_self hi] at hj
      cases hj
      exact oset_same
    · rw [List.getElem?_set_ne e] at hj
      have ne : y.1 ≠ x.1 := fun e2 => by
        have h1 : (l.map (·.1))[i]? = some x.1 := by rw [List.getElem?_map, hx]; rfl
        have h2 : (l.map (·.1))[j]? = some x.1 := by rw [List.getElem?_map, hj, ← e2]; rfl
        exact e (nodup_idx h.d.nd h1 h2)
      rw [oset_ne ne]
      exact h.d.o y (List.mem_of_getElem? hj)
  · rw [oset_ne (fun z => by rw [z, xO] at ha; cases ha)]; exact h.sub a e ha
section
variable (rows : List Rw) (c : Nat)
def clo (known : List Nat) (r : Nat) : Prop := ∀ r0 x0, rows[r0]? = some x0 → r ∈ x0.fol r0 → c ∉ x0.sets → r0 ∈ known
structure Kn (known : List Nat) : Prop where
  nd : known.Nodup
  n : ∀ r ∈ known, Nd rows c r
structure Rd (k : Nat) (known waiting : List Nat) : Prop where
  kn : Kn rows c known
  us : ∀ r x, rows[r]? = some x → c ∈ x.uses → r ∈ known
  ws : ∀ r ∈ waiting, r ∈ known
  cl : ∀ r ∈ known, r ∈ waiting ∨ clo rows c known r
  sz : waiting = [] ∨ k < known.length
/-- within a round -/
structure In (k : Nat) (known0 waiting : List Nat) (i : Nat) (known fresh : List Nat) : Prop where
  r0 : Rd rows c k known0 waiting
  kn : Kn rows c known
  ap : known = known0 ++ fresh
  dn : ∀ r ∈ waiting.take i, clo rows c known r
  fw : waiting = [] → fresh = []
end
section
variable {rows : List Rw} {c : Nat}
theorem clo.mono {a b : List Nat} {r : Nat} (h : clo rows c a r) (s : ∀ x ∈ a, x ∈ b) : clo rows c b r := fun r0 x0 h1 h2 h3 => s _ (h r0 x0 h1 h2 h3)
theorem Kn.len {known : List Nat} (h : Kn rows c known) : known.length ≤ rows.length := by
  have := nat_nodup_len known (List.range rows.length) h.nd fun x hx => List.mem_range.mpr (h.n x hx).lt
  rwa [List.length_range] at this
theorem Rd.next {k : Nat} {known0 waiting known fresh : List Nat} (h : In rows c k known0 waiting waiting.length known fresh) : Rd rows c (k + 1) known fresh := by
  obtain ⟨r0, kn, ap, dn, fw⟩ := h
  rw [List.take_length] at dn
  refine ⟨kn, fun r x h1 h2 => by rw [ap]; exact List.mem_append_left _ (r0.us r x h1 h2), fun r hr => by rw [ap]; exact List.mem_append_right _ hr, fun r hr => ?_, ?_⟩
  · rw [ap, List.mem_append] at hr
    rcases hr with hr | hr
    · rcases r0.cl r hr with h | h
      · exact .inr (dn r h)
      · exact .inr (h.mono fun x hx => by rw [ap]; exact List.mem_append_left _ hx)
    · exact .inl hr
  · cases fresh with
    | nil => exact .inl rfl
    | cons x l =>
      refine .inr ?_
      rcases r0.sz with h | h
      · -- nothing was waiting: nothing is fresh
        have := fw h
        cases this
      · rw [ap, List.length_append, List.length_cons]; omega
/-- behind enough rounds all is known -/
theorem Rd.all {k : Nat} {known waiting : List Nat} (h : Rd rows c k known waiting) (hk : rows.length ≤ k) (r : Nat) : r ∈ known ↔ Nd rows c r := by
  have hw : waiting = [] := by
    rcases h.sz with e | e
    · exact e
    · have := h.kn.len; omega
  refine ⟨h.kn.n r, fun hn => ?_⟩
  induction hn with
  | use h1 h2 => exact h.us _ _ h1 h2
  | step h1 h2 h3 _ ih =>
    rcases h.cl _ ih with e | e
    · rw [hw] at e; cases e
    · exact e _ _ h1 h2 h3
end
end LW
set_option Elab.async false
set_option linter.all false
set_option maxRecDepth 100000
set_option maxHeartbeats 8000000
set_option pp.maxSteps 900
namespace LW
open PySem PySem.Spec PyProof.Rows L2 EV PySem.XO PySem.W LamX
local macro_rules | `(tactic| walk_at "fd") => `(tactic| first | assumption | rfl)
local macro_rules | `(tactic| walk_at "ow") => `(tactic| first | assumption | exact oset_self | (rw [oset_ne (by assumption)]; walk_at "ow") | (rw [oset_ne (Ne.symm (by assumption))]; walk_at "ow"))
local macro_rules | `(tactic| walk_at "ix") => `(tactic| first | exact EV.ga0 | exact EV.ga1 | exact EV.ga2 | exact EV.ga3 | exact EV.ga4 | exact EV.ga5 | exact EV.ga6 | exact EV.ga7 | exact EV.ga8 | exact EV.ga9 | exact EV.ga10 | exact EV.ga11 | exact EV.ga12 | exact EV.ga13 | exact EV.ga14 | exact EV.ga15 | assumption | rfl)
local macro_rules | `(tactic| walk_at "sz") => `(tactic| first | exact trivial | (with_reducible assumption) | omega | ((with_reducible refine szR ?_); exact rfl) | ((with_reducible refine szk' ?_); omega) | ((with_reducible refine szl ?_); omega) | exact szlt rfl | rfl | exact ⟨rfl, by assumption⟩ | exact ⟨rfl, rfl⟩ | exact ⟨_, rfl⟩ | ((with_reducible refine szk' ?_); simp only [List.length_cons, List.length_nil, List.length_append, List.length_map]; omega) | (unfold CMul; omega) | (unfold CDiv; omega) | (unfold CPow; exact ⟨by omega, by omega, by omega⟩) | (constructor; · omega; · omega))
local macro_rules | `(tactic| walk_at "val") => `(tactic| first | assumption | exact rfl)
local macro_rules | `(tactic| walk_at "ty") => `(tactic| first | assumption | exact rfl)
local macro_rules | `(tactic| walk_at "bt") => `(tactic| first | exact rfl | assumption)
local macro_rules | `(tactic| walk_at "n") => `(tactic| refine st_norm (by simp only [List.set_cons_succ, List.set_cons_zero]; rfl) ?_)
local macro_rules | `(tactic| walk_at "wh") => `(tactic| with_reducible conv => whnf)
local macro_rules | `(tactic| walk_at "call") => `(tactic| fail)
local macro_rules | `(tactic| walk_at "go1") => `(tactic| first
  | ((with_reducible apply go_var); (· exact rfl))
  | ((with_reducible apply go_varF); (· exact rfl); (· walk_at "ow"))
  | ((with_reducible apply go_set); (· (simp only [wipeD, List.map_cons, List.map_nil, List.set_cons_succ, List.set_cons_zero]; rfl)))
  | ((with_reducible apply go_fld); (· walk_at "fd"))
  | ((with_reducible apply go_fldH); (· walk_at "ow"); (· walk_at "fd"))
  | ((with_reducible apply go_ixT); (· walk_at "ix"))
  | ((with_reducible apply go_ixL); (· walk_at "ix"))
  | ((with_reducible apply go_ixH); (· walk_at "ow"); (· walk_at "ix"))
  | ((with_reducible apply go_bcT); (· walk_at "bt"))
  | ((with_reducible apply go_bcF); (· walk_at "bt"))
  | ((with_reducible apply go_methH); (· walk_at "ow"); (· walk_at "fd"))
  | ((with_reducible apply And.intro); (· walk_at "sz"))
  | ((with_reducible apply go_lm); (· walk_at "ow"))
  | ((with_reducible apply go_lm2); (· walk_at "ow"))
  | ((with_reducible apply go_app); (· walk_at "sz"))
  | ((with_reducible apply go_ext); (· walk_at "sz"))
  | ((with_reducible apply go_setF); (· walk_at "ow"))
  | ((with_reducible apply go_frz); (· walk_at "ow"))
  | ((with_reducible apply go_atK); (· walk_at "val"))
  | ((with_reducible apply go_atS); (· walk_at "val"))
  | ((with_reducible apply go_atI); (· walk_at "val"))
  | ((with_reducible apply go_atHK); (· walk_at "ow"); (· walk_at "val"))
  | ((with_reducible apply go_atHS); (· walk_at "ow"); (· walk_at "val"))
  | ((with_reducible apply go_dputS); (· walk_at "ow"); (· walk_at "sz"))
  | ((with_reducible apply go_dputK); (· walk_at "ow"); (· walk_at "sz"))
  | (with_reducible apply go_eqI)
  | (with_reducible apply go_eqS)
  | (with_reducible apply go_eqB)
  | (with_reducible apply go_neg)
  | (with_reducible apply go_lenL)
  | (with_reducible apply go_lenT)
  | ((with_reducible apply go_lenS); (· walk_at "sz"))
  | ((with_reducible apply go_lenH); (· walk_at "ow"))
  | (with_reducible apply go_tupL)
  | (with_reducible apply go_tupT)
  | ((with_reducible apply go_tupH); (· walk_at "ow"))
  | (with_reducible apply go_listL)
  | (with_reducible apply go_listT)
  | ((with_reducible apply go_listH); (· walk_at "ow"))
  | (with_reducible apply go_all)
  | (with_reducible apply go_any)
  | ((with_reducible apply go_isi); (· exact rfl); (· walk_at "ty"); (· walk_at "val"))
  | ((with_reducible apply go_inS); (· exact rfl))
  | ((with_reducible apply go_inSL); (· exact rfl))
  | ((with_reducible apply go_sortS); (· walk_at "sz"))
  | (with_reducible apply go_own)
  | (with_reducible apply go_pnil)
  | (with_reducible apply go_pcons)
  | ((with_reducible apply go_lcNil); (· exact trivial))
  | (with_reducible apply go_lcCons)
  | (with_reducible apply go_min2)
  | walk_at "call")
local macro_rules | `(tactic| walk_at "go") => `(tactic| (walk_at "wh"; repeat (walk_at "go1"; walk_at "wh")))
local macro_rules | `(tactic| walk_at "all") => `(tactic| (walk_at "wh"; repeat ((first | walk_at "go1" | (with_reducible refine go_st fun _ _ => ?_) | (with_reducible apply goN; (· assumption))); walk_at "wh")))
local macro_rules | `(tactic| walk_at "call") => `(tactic| first | ((with_reducible apply goR_inK); (· exact rfl)) | ((with_reducible apply goR_ixK); (· exact rfl)))
def lneedS : DSp := fun ds O Q _ => ∃ (rows : List Rw) (nc : Nat), ds = [.lst (rows.map Rw.d), natD nc] ∧ nc ≤ 300 ∧ rows.length ≤ 60 ∧ (∀ (r : Nat) (x : Rw), rows[r]? = some x → ∀ r' ∈ x.fol r, r' < rows.length) ∧
  ∀ (f : Addr) (l : List (Addr × List D)) (O1 : Ow), Deep O1 f l → O f = none → (∀ x ∈ l, O x.1 = none) → (∀ a, a ∉ deepA f l → O1 a = O a) → l.map (·.2) = (List.range rows.length).map (fun r => (ndL rows nc r).map natD) → Q (.opq (.ref f)) O1
def ahdF (rows : List Rw) (a : Nat) (d : D) : Option D := match d with
  | .int k => (rows[k.toNat]?).bind fun x => if a ∈ x.fol k.toNat then some d else none
  | _ => none
def ahdD (rows : List Rw) (d : D) : D := match d with
  | .int a => .lst ([] ++ (rngD 0 rows.length).filterMap (ahdF rows a.toNat))
  | _ => .non
theorem eqv_nat (x y : Nat) : PyData.eqv (.int (x : Int)) (.int (y : Int)) = decide (x = y) := by
  rw [Bool.eq_iff_iff, decide_eq_true_eq]
  have h := eqv_nz (a := natD x) (b := natD y) (x := .int (x : Int)) (y := .int (y : Int)) rfl rfl rfl rfl
  rw [h]
  exact ⟨fun e => by injection e with e; omega, fun e => by rw [e]⟩
abbrev pnat (n : Nat) : PyData := .int (n : Int)
theorem any_nat (a : Nat) : ∀ l : List Nat, ((l.map pnat).any fun z => PyData.eqv z (pnat a)) = decide (a ∈ l)
  | [] => rfl
  | x :: l => by
    rw [List.map_cons, List.any_cons, any_nat a l, eqv_nat]
    by_cases h : x = a
    · subst h; simp
    · have h2 : ¬ a = x := fun e => h e.symm
      simp [h, h2]
theorem toPs_nats : ∀ l : List Nat, toPs (l.map natD) = some (l.map pnat)
  | [] => rfl
  | x :: l => by
    rw [List.map_cons, toPs, toPs_nats l]; rfl
theorem nzs_nats (l : List Nat) : nzs (l.map natD) = true := nzs_all.mpr fun d hd => by
  obtain ⟨x, _, rfl⟩ := List.mem_map.mp hd; rfl
theorem shp_nats (l : List Nat) : SeqAt.shaped (.list (l.map pnat)) = true := by
  have hd : dps (l.map natD) ≤ 0 := dps_le.mpr fun d hd => by
    obtain ⟨x, _, rfl⟩ := List.mem_map.mp hd
    simp [dp]
  exact shp_nz (d := .lst (l.map natD)) (by rw [nz]; exact nzs_nats l) (by rw [dp]; omega) (by rw [toP, toPs_nats]; rfl)
def natF (p : Nat → Bool) (d : D) : Option D := match d with
  | .int k => if p k.toNat = true then some d else none
  | _ => none
theorem natF_all (p : Nat → Bool) (n : Nat) : (rngD 0 n).filterMap (natF p) = ((List.range n).filter p).map natD := by
  rw [show rngD 0 n = (List.range n).map (fun (k : Nat) => D.int k) by simp [rngD], List.filterMap_map, ← fm_if]
  rfl
def usP (rows : List Rw) (c r : Nat) : Bool := match rows[r]? with
  | some x => decide (c ∈ x.uses)
  | none => false
def foP (rows : List Rw) (a r : Nat) : Bool := match rows[r]? with
  | some x => decide (a ∈ x.fol r)
  | none => false
theorem ahdF_eq (rows : List Rw) (a : Nat) : ahdF rows a = natF (foP rows a) := by
  funext d
  cases d <;> try rfl
  rename_i k
  unfold ahdF natF foP
  dsimp only
  cases e : rows[k.toNat]? with
  | none => simp
  | some x =>
    by_cases h : a ∈ x.fol k.toNat
    · simp [h]
    · simp [h]
def wts (rows : List Rw) (c : Nat) : List Nat := (List.range rows.length).filter (usP rows c)
def prds (rows : List Rw) (a : Nat) : List Nat := (List.range rows.length).filter (foP rows a)
theorem mem_wts {rows : List Rw} {c r : Nat} : r ∈ wts rows c ↔ ∃ x, rows[r]? = some x ∧ c ∈ x.uses := by
  unfold wts usP
  rw [List.mem_filter, List.mem_range]
  constructor
  · rintro ⟨_, h⟩
    cases e : rows[r]? with
    | none => rw [e] at h; cases h
    | some x => rw [e] at h; exact ⟨x, rfl, of_decide_eq_true h⟩
  · rintro ⟨x, e, h⟩
    refine ⟨?_, by rw [e]; exact decide_eq_true h⟩
    rcases Nat.lt_or_ge r rows.length with h' | h'
    · exact h'
    · rw [List.getElem?_eq_none h'] at e; cases e
theorem mem_prds {rows : List Rw} {a r : Nat} : r ∈ prds rows a ↔ ∃ x, rows[r]? = some x ∧ a ∈ x.fol r := by
  unfold prds foP
  rw [List.mem_filter, List.mem_range]
  constructor
  · rintro ⟨_, h⟩
    cases e : rows[r]? with
    | none => rw [e] at h; cases h
    | some x => rw [e] at h; exact ⟨x, rfl, of_decide_eq_true h⟩
  · rintro ⟨x, e, h⟩
    refine ⟨?_, by rw [e]; exact decide_eq_true h⟩
    rcases Nat.lt_or_ge r rows.length with h' | h'
    · exact h'
    · rw [List.getElem?_eq_none h'] at e; cases e
theorem rd_first (rows : List Rw) (c : Nat) : Rd rows c 0 (wts rows c) (wts rows c) := by
  refine ⟨⟨List.Nodup.sublist List.filter_sublist List.nodup_range, fun r hr => ?_⟩, fun r x h1 h2 => mem_wts.mpr ⟨x, h1, h2⟩, fun _ h => h, fun _ h => .inl h, ?_⟩
  · obtain ⟨x, h1, h2⟩ := mem_wts.mp hr
    exact .use h1 h2
  · cases e : wts rows c with
    | nil => exact .inl rfl
    | cons x l => exact .inr (Nat.succ_pos _)
abbrev kdsB (known : List Nat) : List (Key × D) := known.map fun (r : Nat) => ((.inl (r : Int) : Key), D.bl true)
theorem kdsB_val {r : Nat} : ∀ known : List Nat, valD (kdsB known) (.inl (r : Int)) = if r ∈ known then some (.bl true) else none
  | [] => rfl
  | k :: known => by
    have ih := kdsB_val (r := r) known
    unfold valD at ih ⊢
    rw [show kdsB (k :: known) = ((.inl (k : Int) : Key), D.bl true) :: kdsB known from rfl, List.find?_cons]
    by_cases e : k = r
    · subst e
      rw [decide_eq_true rfl, if_pos List.mem_cons_self]; rfl
    · have e2 : ¬ ((.inl (k : Int) : Key) = .inl (r : Int)) := fun h => e (by have : (k : Int) = r := Sum.inl.inj h; omega)
      rw [decide_eq_false e2]
      dsimp only
      rw [ih]
      by_cases h : r ∈ known
      · rw [if_pos h, if_pos (List.mem_cons_of_mem _ h)]
      · rw [if_neg h, if_neg (fun z => by rcases List.mem_cons.mp z with z | z; exact e z.symm; exact h z)]
theorem kdsB_put {r : Nat} {known : List Nat} (h : r ∉ known) : putKD (kdsB known) (.inl (r : Int)) (.bl true) = kdsB (known ++ [r]) := by
  unfold putKD
  have e : ((kdsB known).any fun kv => decide (kv.1 = (.inl (r : Int) : Key))) = false := by
    rw [List.any_eq_false]
    intro kv hk q
    obtain ⟨k, hk2, rfl⟩ := List.mem_map.mp hk
    have : (k : Int) = r := Sum.inl.inj (of_decide_eq_true q)
    exact h (by rw [← show k = r by omega]; exact hk2)
  rw [if_neg (by rw [e]; decide)]
  unfold kdsB
  rw [List.map_append]; rfl
theorem kdsB_merge : ∀ {l a : List Nat}, (a ++ l).Nodup → mergeKD (kdsB a) (kdsB l) = kdsB (a ++ l)
  | [], a, _ => by rw [List.append_nil]; rfl
  | r :: l, a, h => by
    have hr : r ∉ a := fun hm => (List.nodup_append.mp h).2.2 _ hm _ List.mem_cons_self rfl
    show mergeKD (putKD (kdsB a) (.inl (r : Int)) (.bl true)) (kdsB l) = _
    rw [kdsB_put hr, kdsB_merge (by rwa [List.append_assoc, List.singleton_append]), List.append_assoc, List.singleton_append]
theorem In.add {rows : List Rw} {c k i r0 : Nat} {known0 waiting known fresh : List Nat} (h : In rows c k known0 waiting i known fresh) (hn : r0 ∉ known) (hN : Nd rows c r0) (hw : waiting ≠ []) : In rows c k known0 waiting i (known ++ [r0]) (fresh ++ [r0]) :=
  ⟨h.r0, ⟨List.nodup_append.mpr ⟨h.kn.nd, by simp, fun a ha b hb e => by
    rw [List.mem_singleton] at hb; exact hn (by rw [← hb, ← e]; exact ha)⟩, fun r hr => by
    rcases List.mem_append.mp hr with hr | hr
    · exact h.kn.n r hr
    · rw [List.mem_singleton] at hr; rw [hr]; exact hN⟩, by rw [h.ap, List.append_assoc], fun r hr => (h.dn r hr).mono fun x hx => List.mem_append_left _ hx, fun e => absurd e hw⟩
theorem In.step {rows : List Rw} {c k i r : Nat} {known0 waiting known fresh : List Nat} (h : In rows c k known0 waiting i known fresh) (hr : waiting[i]? = some r) (hc : clo rows c known r) : In rows c k known0 waiting (i + 1) known fresh :=
  ⟨h.r0, h.kn, h.ap, fun x hx => by
    rw [List.take_succ, hr] at hx
    rcases List.mem_append.mp hx with hx | hx
    · exact h.dn x hx
    · rw [show (some r).toList = [r] from rfl, List.mem_singleton] at hx; rw [hx]; exact hc, h.fw⟩
theorem In.first {rows : List Rw} {c k : Nat} {known waiting : List Nat} (h : Rd rows c k known waiting) : In rows c k known waiting 0 known [] :=
  ⟨h, h.kn, by rw [List.append_nil], fun r hr => (by rw [List.take_zero] at hr; cases hr), fun _ => rfl⟩
theorem ahd_at {rows : List Rw} {r : Nat} (h : r < rows.length) : ((rngD 0 rows.length).map (ahdD rows))[r]? = some (.lst ((prds rows r).map natD)) := by
  rw [List.getElem?_map, show rngD 0 rows.length = (List.range rows.length).map (fun (k : Nat) => D.int k) by simp [rngD], List.getElem?_map, List.getElem?_range h]
  show some (D.lst ([] ++ (rngD 0 rows.length).filterMap (ahdF rows (r : Int).toNat))) = _
  rw [Int.toNat_natCast, List.nil_append, ahdF_eq, natF_all]; rfl
theorem nil_rows (rows : List Rw) : (rows.map Rw.d).map (fun _ => ([] : List D)) = (List.range rows.length).map fun r => ((List.range 0).filter fun c => ndB rows c r).map natD := by
  apply List.ext_getElem?
  intro r
  rw [List.getElem?_map, List.getElem?_map, List.getElem?_map]
  by_cases hr : r < rows.length
  · rw [List.getElem?_range hr, List.getElem?_eq_getElem hr]; rfl
  · rw [List.getElem?_eq_none (by omega), List.getElem?_eq_none (by rw [List.length_range]; omega)]; rfl
noncomputable def accR (rows : List Rw) (cc : Nat) (ys : List Int) (r : Nat) : List D := ((List.range cc).filter fun c => ndB rows c r).map natD ++ (if (r : Int) ∈ ys then [natD cc] else [])
theorem accR_nil {rows : List Rw} {cc r : Nat} : accR rows cc [] r = ((List.range cc).filter fun c => ndB rows c r).map natD := by
  unfold accR
  rw [if_neg (by simp), List.append_nil]
theorem accR_end {rows : List Rw} {cc r : Nat} {ys : List Int} (h : ((r : Int) ∈ ys) ↔ Nd rows cc r) : accR rows cc ys r = ((List.range (cc + 1)).filter fun c => ndB rows c r).map natD := by
  unfold accR
  rw [List.range_succ, List.filter_append, List.map_append]
  congr 1
  by_cases hn : Nd rows cc r
  · rw [if_pos (h.mpr hn), List.filter_cons, if_pos (ndB_iff.mpr hn)]; rfl
  · rw [if_neg (fun q => hn (h.mp q)), List.filter_cons, if_neg (fun q => hn (ndB_iff.mp q))]; rfl
theorem accR_step {rows : List Rw} {cc r n : Nat} {zs : List Int} {l : List (Addr × List D)} {x : Addr × List D} (hl : l.map (·.2) = (List.range n).map (accR rows cc zs)) (hx : l[r]? = some x) (h : (r : Int) ∉ zs) : (l.set r (x.1, x.2 ++ [natD cc])).map (·.2) = (List.range n).map (accR rows cc (zs ++ [(r : Int)])) := by
  have hlen : l.length = n := by
    have := congrArg List.length hl
    rwa [List.length_map, List.length_map, List.length_range] at this
  have hr : r < l.length := by
    rcases Nat.lt_or_ge r l.length with h' | h'
    · exact h'
    · rw [List.getElem?_eq_none h'] at hx; cases hx
  rw [List.map_set, hl]
  apply List.ext_getElem?
  intro j
  by_cases e : r = j
  · subst e
    rw [List.getElem?_set_self (by rw [List.length_map, List.length_range]; omega), List.getElem?_map, List.getElem?_range (by omega)]
    have h2 : (l.map (·.2))[r]? = some x.2 := by rw [List.getElem?_map, hx]; rfl
    rw [hl, List.getElem?_map, List.getElem?_range (by omega)] at h2
    have h3 : accR rows cc zs r = x.2 := Option.some.inj h2
    show some (x.2 ++ [natD cc]) = some (accR rows cc (zs ++ [(r : Int)]) r)
    rw [← h3]
    unfold accR
    rw [if_neg h, if_pos (List.mem_append_right _ List.mem_cons_self), List.append_nil]
  · rw [List.getElem?_set_ne e, List.getElem?_map, List.getElem?_map]
    by_cases hj : j < n
    · rw [List.getElem?_range hj]
      show some (accR rows cc zs j) = some (accR rows cc (zs ++ [(r : Int)]) j)
      unfold accR
      have : ((j : Int) ∈ zs ++ [(r : Int)]) ↔ (j : Int) ∈ zs := by
        rw [List.mem_append, List.mem_singleton]
        exact ⟨fun z => z.elim id fun z => absurd (by omega) e, .inl⟩
      simp only [this]
    · rw [List.getElem?_eq_none (by rw [List.length_range]; omega)]; rfl
theorem szl' {n : Nat} (h : n ≤ 900) : n < sizeLine := Nat.lt_of_lt_of_le (Nat.lt_of_le_of_lt h (by decide : 900 < 1000)) (szk' (Nat.le_refl _))
theorem go_sortDI {O : Ow} {p : Addr} {kds : List (Key × D)} {ks : List Int} {Q : D → Prop} (e : O p = some (.dic kds)) (h1 : kds.map (·.1) = ks.map Sum.inl) (h2 : ks.length < 64) (h : ∀ ys : List Int, ys.Perm ks → ys.Pairwise (· ≤ ·) → Q (.lst (ys.map D.int))) : sortDI O [.opq (.ref p)] Q := by
  unfold sortDI
  dsimp only
  rw [lk_of e]
  exact ⟨ks, h1, h2, h⟩
section
variable {P : Program} {w : World} {K : PySem.W.Frag} {mg : Str → Option Value} {base : Heap}
theorem ok_lneed {f fF fU fS : Addr} {fd fdF fdU fdS : FuncData} (F : Fun K "_law_needed" "_law_needed" s_lneeded f fd)
    (G_lfollowing : FnOk P w K mg base CX0 1 fF fdF ["_law_rows", "_law_at"] (spD K folS)) (T_lfollowing : Gf K mg "_law_following" fF fdF ["_law_rows", "_law_at"])
    (G_used : FnOk P w K mg base CX0 1 fU fdU ["_law_step_here"] (spD K useS)) (T_used : Gf K mg "_law_used" fU fdU ["_law_step_here"])
    (G_sets : FnOk P w K mg base CX0 1 fS fdS ["_law_step_here"] (spD K setS)) (T_sets : Gf K mg "_law_sets" fS fdS ["_law_step_here"])
    (m_range : mg "range" = none) (m_len : mg "len" = none) (m_dict : mg "dict" = none) (m_sorted : mg "sorted" = none) :
    FnOk P w K mg base CX0 2 f fd ["_law_rows", "_law_cells"] (spD K lneedS) := by
  refine fn_pureF F sc_lneeded (fun ds O Q E h => ?_) (fun cdv A outer s H E hr =>
    (d_scons (d_setLcO (i := 2) rfl sc_lneeded.nd rfl rfl (sw_true rfl rfl rfl (by decide +kernel)) (d_iter (d_var (i := 0) rfl (.inr (.inl rfl)) (by decide) (by decide))) (blkOk_by (own := [("_law_step_here", 11)]) (N := N_lneeded) (sc := defScope s_lneeded) (by decide +kernel)) (fun _ _ _ _ _ => (dg_name (i := 11) sc_lneeded.nd rfl (.inl rfl) (.inr rfl))) (fun _ _ _ _ _ => d_ifs0) (fun _ _ _ _ _ => (d_lstO d_nil)) (by decide +kernel) (fun _ => rfl))
      (d_scons (d_setLc (i := 3) rfl sc_lneeded.nd rfl rfl (sw_true rfl rfl rfl (by decide +kernel)) (d_rng1 rfl m_range (d_cons (d_callB cd_len rfl m_len boot_len (d_cons (d_var (i := 0) rfl (.inr (.inl rfl)) (by decide) (by decide)) d_nil rfl) (by decide) (by decide) rfl rfl) d_nil rfl) rfl) (blkOk_by (own := [("_law_at", 8)]) (N := N_lneeded) (sc := defScope s_lneeded) (by decide +kernel)) (fun _ _ _ _ _ => (dg_name (i := 8) sc_lneeded.nd rfl (.inr rfl) (.inl rfl))) (fun _ _ _ _ _ => d_ifs0) (fun _ _ _ _ _ => (d_lc rfl sc_lneeded.nd (d_rng1 rfl m_range (d_cons (d_callB cd_len rfl m_len boot_len (d_cons (d_var (i := 0) rfl (.inr (.inl rfl)) (by decide) (by decide)) d_nil rfl) (by decide) (by decide) rfl rfl) d_nil rfl) rfl) (blkOk_by (own := [("_law_k", 7)]) (N := N_lneeded) (sc := _) (by kernel_rfl)) (fun _ _ _ _ _ => (dg_name (i := 7) sc_lneeded.nd rfl (.inl rfl) (.inr rfl))) (fun _ _ _ _ _ => (d_ifs1 (d_tcmp (od_in (hu1 hr)) (d_var (i := 8) rfl (.inr (.inl rfl)) (by decide) (by decide)) (d_call G_lfollowing (hr.mono (by decide)) rfl T_lfollowing.m T_lfollowing.k T_lfollowing.b (fun _ => pass0A) (d_cons (d_var (i := 0) rfl (.inr (.inl rfl)) (by decide) (by decide)) (d_cons (d_var (i := 7) rfl (.inl rfl) (by decide) (by decide)) d_nil rfl) rfl) (by decide) rfl rfl) rfl))) (fun _ _ _ _ _ => (d_var (i := 7) rfl (.inl rfl) (by decide) (by decide))) (by decide +kernel) (fun _ => rfl))) (by decide +kernel) (fun _ => rfl))
      (d_scons (d_for PassesOwn.never rfl (d_rng1 rfl m_range (d_cons (d_var (i := 1) rfl (.inl rfl) (by decide) (by decide)) d_nil rfl) rfl) (dg_name (i := 4) sc_lneeded.nd rfl (.inr rfl) (.inl rfl)) (d_scons (d_setLc (i := 5) rfl sc_lneeded.nd rfl rfl (sw_true rfl rfl rfl (by decide +kernel)) (d_rng1 rfl m_range (d_cons (d_callB cd_len rfl m_len boot_len (d_cons (d_var (i := 0) rfl (.inr (.inl rfl)) (by decide) (by decide)) d_nil rfl) (by decide) (by decide) rfl rfl) d_nil rfl) rfl) (blkOk_by (own := [("_law_at", 8)]) (N := N_lneeded) (sc := defScope s_lneeded) (by decide +kernel)) (fun _ _ _ _ _ => (dg_name (i := 8) sc_lneeded.nd rfl (.inl rfl) (.inr rfl))) (fun _ _ _ _ _ => (d_ifs1 (d_tcmp (od_in (hu1 hr)) (d_var (i := 4) rfl (.inr (.inl rfl)) (by decide) (by decide)) (d_call G_used (hr.mono (by decide)) rfl T_used.m T_used.k T_used.b (fun _ => pass0A) (d_cons (d_ix (d_var (i := 0) rfl (.inr (.inl rfl)) (by decide) (by decide)) (d_var (i := 8) rfl (.inl rfl) (by decide) (by decide)) (fun _ _ => rfl)) d_nil rfl) (by decide) rfl rfl) rfl))) (fun _ _ _ _ _ => (d_var (i := 8) rfl (.inl rfl) (by decide) (by decide))) (by decide +kernel) (fun _ => rfl))
      (d_scons (d_set (i := 6) sc_lneeded.nd rfl (.inl rfl) (d_dictP rfl rfl m_dict (d_cons (d_lc rfl sc_lneeded.nd (d_iter (d_var (i := 5) rfl (.inl rfl) (by decide) (by decide))) (blkOk_by (own := [("_law_at", 8)]) (N := N_lneeded) (sc := defScope s_lneeded) (by decide +kernel)) (fun _ _ _ _ _ => (dg_name (i := 8) sc_lneeded.nd rfl (.inl rfl) (.inr rfl))) (fun _ _ _ _ _ => d_ifs0) (fun _ _ _ _ _ => (d_tup (d_cons (d_var (i := 8) rfl (.inl rfl) (by decide) (by decide)) (d_cons d_bl d_nil rfl) rfl))) (by decide +kernel) (fun _ => rfl)) d_nil rfl) rfl) rfl (.inl rfl))
      (d_scons (d_for PassesOwn.never rfl (d_rng1 rfl m_range (d_cons (d_op od_add (d_callB cd_len rfl m_len boot_len (d_cons (d_var (i := 0) rfl (.inr (.inl rfl)) (by decide) (by decide)) d_nil rfl) (by decide) (by decide) rfl rfl) d_int) d_nil rfl) rfl) (dg_name (i := 7) sc_lneeded.nd rfl (.inl rfl) (.inl rfl)) (d_scons (d_set (i := 9) sc_lneeded.nd rfl (.inl rfl) (d_lstO d_nil) rfl (.inl rfl))
      (d_scons (d_for PassesOwn.never rfl (d_iter (d_var (i := 5) rfl (.inl rfl) (by decide) (by decide))) (dg_name (i := 8) sc_lneeded.nd rfl (.inl rfl) (.inl rfl)) (d_sone (d_for PassesOwn.never rfl (d_iter (d_ix (d_var (i := 3) rfl (.inl rfl) (by decide) (by decide)) (d_var (i := 8) rfl (.inl rfl) (by decide) (by decide)) (fun _ _ => rfl))) (dg_name (i := 10) sc_lneeded.nd rfl (.inl rfl) (.inl rfl)) (d_sone (d_ifS (DPW.pt (d_wand (d_tcmp (od_notinDic (hud hr)) (d_var (i := 10) rfl (.inl rfl) (by decide) (by decide)) (d_var (i := 6) rfl (.inl rfl) (by decide) (by decide)) rfl) (d_and1 (d_tcmp (od_notin (hu1 hr)) (d_var (i := 4) rfl (.inr (.inl rfl)) (by decide) (by decide)) (d_call G_sets (hr.mono (by decide)) rfl T_sets.m T_sets.k T_sets.b (fun _ => pass0A) (d_cons (d_ix (d_var (i := 0) rfl (.inr (.inl rfl)) (by decide) (by decide)) (d_var (i := 10) rfl (.inl rfl) (by decide) (by decide)) (fun _ _ => rfl)) d_nil rfl) (by decide) rfl rfl) rfl)))) (d_scons (d_dput (hud hr) (d_var (i := 6) rfl (.inl rfl) (by decide) (by decide)) (d_var (i := 10) rfl (.inl rfl) (by decide) (by decide)) d_bl rfl)
      (d_sone (d_expr (d_lm lm_app (d_var (i := 9) rfl (.inl rfl) (by decide) (by decide)) (d_cons (d_var (i := 10) rfl (.inl rfl) (by decide) (by decide)) d_nil rfl) rfl rfl rfl rfl rfl) rfl))) d_snil)) (fun _ => rfl))) (fun _ => rfl))
      (d_sone (d_set (i := 5) sc_lneeded.nd rfl (.inl rfl) (d_varF (i := 9) rfl (.inl rfl) (by decide) (by decide)) rfl (.inl rfl))))) (fun _ => rfl))
      (d_sone (d_for PassesOwn.never rfl (d_iter (d_callB (cd_sortDI rfl) rfl m_sorted boot_sorted (d_cons (d_var (i := 6) rfl (.inl rfl) (by decide) (by decide)) d_nil rfl) (by decide) (by decide) rfl rfl)) (dg_name (i := 8) sc_lneeded.nd rfl (.inl rfl) (.inl rfl)) (d_sone (d_expr (d_lm lm_app (d_ix (d_var (i := 2) rfl (.inl rfl) (by decide) (by decide)) (d_var (i := 8) rfl (.inl rfl) (by decide) (by decide)) (fun _ _ => rfl)) (d_cons (d_var (i := 4) rfl (.inr (.inl rfl)) (by decide) (by decide)) d_nil rfl) rfl rfl rfl rfl rfl) rfl)) (fun _ => rfl)))))) (fun _ => rfl))
      (d_sone (d_ret (d_var (i := 2) rfl (.inl rfl) (by decide) (by decide)))))))) (fun ds O Q E h => ?_) (fun ds O Q E h => h)
  · obtain ⟨rows, nc, rfl, _⟩ := h; rfl
  · obtain ⟨rows, nc, rfl, hnc, hrl, hfol, k⟩ := h
    rw [show startD N_lneeded [.lst (rows.map Rw.d), natD nc] = [.sh (.lst (rows.map Rw.d)), .sh (natD nc), .un, .un, .un, .un, .un, .un, .un, .un, .un, .un] from rfl]
    have hml : (rows.map Rw.d).length ≤ 60 := by rw [List.length_map]; exact hrl
    refine go_st fun N hN => ?_
    walk_at "go"
    change lcW tt1 _ _ _ _ (rows.map Rw.d) [] _ _
    refine lcW_own (fun _ => []) (fun d hd O1 Qy Qs h => ?_) (szk' (by show 0 + _ ≤ 1000; omega)) fun l e nd ho => ?_
    · unfold elW
      walk_at "go"
      exact h
    intro pf npf
    have nf : pf ∉ l.map (·.1) := fun hm => by
      obtain ⟨x, hx, e⟩ := List.mem_map.mp hm
      rw [← e, ownL_in nd x hx] at npf; cases npf
    rw [ownL_out nf] at npf
    rw [List.nil_append]
    have jd : JD O pf l (oset (ownL O l) pf (.lst (l.map fun x => .opq (.ref x.1)))) := by
      refine ⟨ownL_deep nd nf, fun a d ha => ?_, fun a ha => ?_⟩
      · have h1 : a ≠ pf := fun z => by rw [z, npf] at ha; cases ha
        have h2 : a ∉ l.map (·.1) := fun hm => by
          obtain ⟨x, hx, e⟩ := List.mem_map.mp hm
          have := ho x hx
          rw [e, ha] at this; cases this
        rw [oset_ne h1, ownL_out h2]; exact ha
      · rcases List.mem_cons.mp ha with rfl | ha
        · exact npf
        · obtain ⟨x, hx, rfl⟩ := List.mem_map.mp ha
          exact ho x hx
    generalize oset (ownL O l) pf (.lst (l.map fun x => .opq (.ref x.1))) = O1 at jd ⊢
    clear npf nf nd ho
    walk_at "go"
    subst hN
    refine go_st fun N hN => ?_
    walk_at "go"
    rw [List.length_map, Int.toNat_natCast]
    change lcW tt1 _ _ _ _ (rngD 0 rows.length) [] _ _
    have hrg : (rngD 0 rows.length).length = rows.length := by simp only [rngD, List.length_map, List.length_range]
    refine go_lc (ahdD rows) (fun d hd Qy h => ?_) (szk' (by rw [hrg]; show 0 + _ ≤ 1000; omega)) ?_
    · obtain ⟨a, ha⟩ := List.getElem?_of_mem hd
      obtain ⟨hal, rfl⟩ := rng_get ha
      clear hd ha
      walk_at "go"
      rw [List.length_map, Int.toNat_natCast]
      change lcW tt1 _ _ _ _ (rngD 0 rows.length) [] _ _
      refine lcW_fm (I := tt1) trivial (ahdF rows a) (fun d hd Qy2 Qs2 q1 q2 => ?_) (szk' (by rw [hrg]; show 0 + _ ≤ 1000; omega)) ?_
      · obtain ⟨k0, hk⟩ := List.getElem?_of_mem hd
        obtain ⟨hkl, rfl⟩ := rng_get hk
        clear hd hk
        obtain ⟨x, hx⟩ : ∃ x, rows[k0]? = some x := ⟨_, List.getElem?_eq_getElem hkl⟩
        have ef : ahdF rows a (.int k0) = if a ∈ x.fol k0 then some (.int k0) else none := by
          show ((rows[(k0 : Int).toNat]?).bind _) = _
          rw [Int.toNat_natCast, hx]; rfl
        unfold elW
        walk_at "go"
        refine spM.of ⟨_, rows, k0, x, rfl, .inl rfl, hx, ?_⟩
        walk_at "go"
        rw [toPs_nats]
        refine ⟨rfl, shp_nats _, ?_⟩
        rw [any_nat]
        walk_at "go"
        by_cases hm : a ∈ x.fol k0
        · refine go_bcT (decide_eq_true hm) ?_
          walk_at "go"
          exact q1 _ (by rw [ef, if_pos hm])
        · refine go_bcF (decide_eq_false hm) ?_
          exact q2 (by rw [ef, if_neg hm])
      · exact h
    rw [List.nil_append]
    walk_at "go"
    subst hN
    refine go_st fun N hN => ?_
    walk_at "go"
    rw [Int.toNat_natCast]
    obtain ⟨AH, hAH⟩ : ∃ AH, AH = (rngD 0 rows.length).map (ahdD rows) := ⟨_, rfl⟩
    rw [← hAH]
    refine go_for (rngD 0 nc) (fun cc ρ O2 => ∃ (l : List (Addr × List D)) (s4 s5 s6 s7 s8 s9 s10 s11 : Sl), JD O pf l O2 ∧ l.map (·.2) = (List.range rows.length).map (fun r => ((List.range cc).filter fun c => ndB rows c r).map natD) ∧ ρ = [.sh (.lst (rows.map Rw.d)), .sh (natD nc), .sh (.opq (.ref pf)), .sh (.lst AH), s4, s5, s6, s7, s8, s9, s10, s11])
      ⟨l, _, _, _, _, _, _, _, _, jd, by rw [e]; exact nil_rows rows, rfl⟩ (fun cc dc hdc ρ O2 hJ N2 hN2 => ?_) (fun ρ O2 hJ => ?_)
    rotate_left
    · obtain ⟨l, s4, s5, s6, s7, s8, s9, s10, s11, jd, hl, rfl⟩ := hJ
      have hln : (rngD 0 nc).length = nc := by simp only [rngD, List.length_map, List.length_range]
      rw [hln] at hl
      subst hN
      walk_at "go"
      refine ⟨fun a => if a ∈ deepA pf l then O2 a else O a, fun a d h => ?_, k pf l _ (jd.d.keep fun a ha => by rw [if_pos ha]) (jd.df pf List.mem_cons_self) (fun x hx => jd.df _ (List.mem_cons_of_mem _ (List.mem_map_of_mem hx))) (fun a ha => by rw [if_neg ha]) hl⟩
      dsimp only at h
      by_cases hm : a ∈ deepA pf l
      · rw [if_pos hm] at h; exact h
      · rw [if_neg hm] at h; exact jd.sub a d h
    clear e jd l k
    obtain ⟨l, s4, s5, s6, s7, s8, s9, s10, s11, jd, hl, rfl⟩ := hJ
    obtain ⟨hcn, rfl⟩ := rng_get hdc
    refine go_set (ρ' := [.sh (.lst (rows.map Rw.d)), .sh (natD nc), .sh (.opq (.ref pf)), .sh (.lst AH), .sh (natD cc), s5, s6, s7, s8, s9, s10, s11]) rfl ?_
    refine go_st fun N3 hN3 => ?_
    walk_at "go"
    rw [List.length_map, Int.toNat_natCast]
    change lcW tt1 _ _ _ _ (rngD 0 rows.length) [] _ _
    refine lcW_fm (I := tt1) trivial (natF (usP rows cc)) (fun d hd Qy2 Qs2 q1 q2 => ?_) (szk' (by rw [hrg]; show 0 + _ ≤ 1000; omega)) ?_
    · obtain ⟨k0, hk⟩ := List.getElem?_of_mem hd
      obtain ⟨hkl, rfl⟩ := rng_get hk
      clear hd hk
      obtain ⟨x, hx⟩ : ∃ x, rows[k0]? = some x := ⟨_, List.getElem?_eq_getElem hkl⟩
      have e1 := at_r hx
      have ef : natF (usP rows cc) (.int k0) = if cc ∈ x.uses then some (.int k0) else none := by
        unfold natF usP
        dsimp only
        rw [Int.toNat_natCast, hx]
        by_cases h : cc ∈ x.uses <;> simp [h]
      unfold elW
      walk_at "go"
      refine spM.of ⟨x, rfl, ?_⟩
      walk_at "go"
      rw [toPs_nats]
      refine ⟨rfl, shp_nats _, ?_⟩
      rw [any_nat]
      walk_at "go"
      by_cases hm : cc ∈ x.uses
      · refine go_bcT (decide_eq_true hm) ?_
        walk_at "go"
        exact q1 _ (by rw [ef, if_pos hm])
      · refine go_bcF (decide_eq_false hm) ?_
        exact q2 (by rw [ef, if_neg hm])
    rw [natF_all, List.nil_append, show (List.range rows.length).filter (usP rows cc) = wts rows cc from rfl]
    walk_at "go"
    subst hN3
    refine go_st fun N3 hN3 => ?_
    walk_at "go"
    have hwl : (wts rows cc).length ≤ 60 := Nat.le_trans (List.length_filter_le ..) (by rw [List.length_range]; exact hrl)
    refine go_lc (fun d => .tup [d, .bl true]) (fun d hd Qy h => ?_) (szk' (by rw [show ((tt1, (wts rows cc).map natD) : IL).2 = (wts rows cc).map natD from rfl, List.length_map]; show 0 + _ ≤ 1000; omega)) ?_
    · obtain ⟨r, _, rfl⟩ := List.mem_map.mp hd
      walk_at "go"
      exact h
    rw [List.nil_append]
    walk_at "go"
    refine ⟨kdsB (wts rows cc), by rw [List.map_map, List.map_map]; rfl, fun pk npk => ?_⟩
    rw [show mergeKD [] (kdsB (wts rows cc)) = kdsB (wts rows cc) from kdsB_merge (a := []) (rd_first rows cc).kn.nd]
    obtain ⟨nO, nD⟩ := jd.new npk
    walk_at "go"
    subst hN3
    refine go_st fun N3 hN3 => ?_
    walk_at "go"
    rw [show rngD 0 (((rows.map Rw.d).length : Int) + 1).toNat = rngD 0 (rows.length + 1) by rw [List.length_map]; congr 1]
    refine go_for (rngD 0 (rows.length + 1)) (fun kk ρ O3 => ∃ (known waiting : List Nat) (s7 s8 s9 s10 s11 : Sl), Rd rows cc kk known waiting ∧ JD O pf l O3 ∧ O3 pk = some (.dic (kdsB known)) ∧ ρ = [.sh (.lst (rows.map Rw.d)), .sh (natD nc), .sh (.opq (.ref pf)), .sh (.lst AH), .sh (natD cc), .sh (.lst (waiting.map natD)), .sh (.opq (.ref pk)), s7, s8, s9, s10, s11])
      ⟨wts rows cc, wts rows cc, _, _, _, _, _, rd_first rows cc, jd.put nO nD, oset_same, rfl⟩ (fun kk dk hdk ρ O3 hJ N4 hN4 => ?_) (fun ρ O3 hJ => ?_)
    · clear npk jd hwl O2 s7 s8 s9 s10 s11 s5 s6
      obtain ⟨known0, waiting, s7, s8, s9, s10, s11, R0, jd, ek, rfl⟩ := hJ
      obtain ⟨hkl, rfl⟩ := rng_get hdk
      refine go_set (ρ' := [.sh (.lst (rows.map Rw.d)), .sh (natD nc), .sh (.opq (.ref pf)), .sh (.lst AH), .sh (natD cc), .sh (.lst (waiting.map natD)), .sh (.opq (.ref pk)), .sh (natD kk), s8, s9, s10, s11]) rfl ?_
      refine go_st fun N5 hN5 => ?_
      walk_at "go"
      intro pz npz
      obtain ⟨zO, zD⟩ := jd.new npz
      have zk : pz ≠ pk := fun e => by rw [e, ek] at npz; cases npz
      walk_at "go"
      subst hN5
      refine go_st fun N5 hN5 => ?_
      walk_at "go"
      refine go_for (waiting.map natD) (fun i ρ O4 => ∃ (known fresh : List Nat) (s8 s10 s11 : Sl), In rows cc kk known0 waiting i known fresh ∧ JD O pf l O4 ∧ O4 pk = some (.dic (kdsB known)) ∧ O4 pz = some (.lst (fresh.map natD)) ∧ ρ = [.sh (.lst (rows.map Rw.d)), .sh (natD nc), .sh (.opq (.ref pf)), .sh (.lst AH), .sh (natD cc), .sh (.lst (waiting.map natD)), .sh (.opq (.ref pk)), .sh (natD kk), s8, .sh (.opq (.ref pz)), s10, s11])
        ⟨known0, [], _, _, _, In.first R0, jd.put zO zD, by rw [oset_ne (Ne.symm zk)]; exact ek, oset_same, rfl⟩ (fun i di hdi ρ O4 hJ N6 hN6 => ?_) (fun ρ O4 hJ => ?_)
      · clear npz jd ek O3 s8 s9 s10 s11 s7
        obtain ⟨known, fresh, s8, s10, s11, I0, jd, ek, ez, rfl⟩ := hJ
        rw [List.getElem?_map] at hdi
        obtain ⟨r, hr, rfl⟩ := Option.map_eq_some_iff.mp hdi
        have hrk : r ∈ known0 := R0.ws r (List.mem_of_getElem? hr)
        have hrN : Nd rows cc r := R0.kn.n r hrk
        have hrl2 : r < rows.length := hrN.lt
        refine go_set (ρ' := [.sh (.lst (rows.map Rw.d)), .sh (natD nc), .sh (.opq (.ref pf)), .sh (.lst AH), .sh (natD cc), .sh (.lst (waiting.map natD)), .sh (.opq (.ref pk)), .sh (natD kk), .sh (natD r), .sh (.opq (.ref pz)), s10, s11]) rfl ?_
        have eah : atI AH (r : Int) = some (.lst ((prds rows r).map natD)) := by rw [hAH]; exact atI_nat (ahd_at hrl2)
        walk_at "go"
        refine go_for ((prds rows r).map natD) (fun j ρ O5 => ∃ (known fresh : List Nat) (s10 s11 : Sl), In rows cc kk known0 waiting i known fresh ∧ (∀ r0 ∈ (prds rows r).take j, ∀ x0, rows[r0]? = some x0 → cc ∉ x0.sets → r0 ∈ known) ∧ JD O pf l O5 ∧ O5 pk = some (.dic (kdsB known)) ∧ O5 pz = some (.lst (fresh.map natD)) ∧ ρ = [.sh (.lst (rows.map Rw.d)), .sh (natD nc), .sh (.opq (.ref pf)), .sh (.lst AH), .sh (natD cc), .sh (.lst (waiting.map natD)), .sh (.opq (.ref pk)), .sh (natD kk), .sh (natD r), .sh (.opq (.ref pz)), s10, s11])
          ⟨known, fresh, _, _, I0, fun r0 h => (by rw [List.take_zero] at h; cases h), jd, ek, ez, rfl⟩ (fun j dj hdj ρ O5 hJ N8 hN8 => ?_) (fun ρ O5 hJ => ?_)
        · clear I0 jd ek ez known fresh O4 s10 s11 s8
          obtain ⟨known, fresh, s10, s11, I0, H0, jd, ek, ez, rfl⟩ := hJ
          rw [List.getElem?_map] at hdj
          obtain ⟨b, hb, rfl⟩ := Option.map_eq_some_iff.mp hdj
          obtain ⟨x, hx, hfx⟩ := mem_prds.mp (List.mem_of_getElem? hb)
          have e1 := at_r hx
          have et : (prds rows r).take (j + 1) = (prds rows r).take j ++ [b] := by rw [List.take_succ, hb]; rfl
          refine go_set (ρ' := [.sh (.lst (rows.map Rw.d)), .sh (natD nc), .sh (.opq (.ref pf)), .sh (.lst AH), .sh (natD cc), .sh (.lst (waiting.map natD)), .sh (.opq (.ref pk)), .sh (natD kk), .sh (natD r), .sh (.opq (.ref pz)), .sh (natD b), s11]) rfl ?_
          walk_at "go"
          refine go_atHK (k := .inl (b : Int)) ek (kdsB_val known) ?_
          by_cases hbk : b ∈ known
          · rw [if_pos hbk]
            walk_at "go"
            refine hN8 _ _ ⟨known, fresh, _, _, I0, fun r0 h x0 h1 h2 => ?_, jd, ek, ez, rfl⟩
            rw [et, List.mem_append, List.mem_singleton] at h
            rcases h with h | rfl
            · exact H0 r0 h x0 h1 h2
            · exact hbk
          rw [if_neg hbk]
          walk_at "go"
          refine spM.of ⟨x, rfl, ?_⟩
          walk_at "go"
          rw [toPs_nats]
          refine ⟨rfl, shp_nats _, ?_⟩
          rw [any_nat]
          walk_at "go"
          by_cases hm : cc ∈ x.sets
          · refine go_bcF (by rw [decide_eq_true hm]; rfl) ?_
            walk_at "go"
            refine hN8 _ _ ⟨known, fresh, _, _, I0, fun r0 h x0 h1 h2 => ?_, jd, ek, ez, rfl⟩
            rw [et, List.mem_append, List.mem_singleton] at h
            rcases h with h | rfl
            · exact H0 r0 h x0 h1 h2
            · rw [hx] at h1; cases h1; exact absurd hm h2
          refine go_bcT (by rw [decide_eq_false hm]; rfl) ?_
          have hbN : Nd rows cc b := .step hx hfx hm hrN
          have hkn : known.length ≤ 60 := Nat.le_trans I0.kn.len hrl
          have hfn : fresh.length ≤ 60 := by have := congrArg List.length I0.ap; rw [List.length_append] at this; omega
          walk_at "go"
          refine go_dputK (k := .inl (b : Int)) ek (szl' (by rw [List.length_map]; omega)) ?_
          rw [kdsB_put hbk]
          walk_at "go"
          refine go_app (szl' (by rw [List.length_map]; omega)) ?_
          walk_at "go"
          refine hN8 _ _ ⟨known ++ [b], fresh ++ [b], _, _, I0.add hbk hbN (fun e => by rw [e] at hr; cases hr), fun r0 h x0 h1 h2 => ?_, ?_, ?_, ?_, rfl⟩
          · rw [et, List.mem_append, List.mem_singleton] at h
            rcases h with h | rfl
            · exact List.mem_append_left _ (H0 r0 h x0 h1 h2)
            · exact List.mem_append_right _ List.mem_cons_self
          · exact (jd.put nO nD).put zO zD
          · rw [oset_ne (Ne.symm zk)]; exact oset_same
          · rw [List.map_append]; exact oset_same
        · obtain ⟨known, fresh, s10, s11, I0, H0, jd, ek, ez, rfl⟩ := hJ
          rw [List.length_map, List.take_length] at H0
          walk_at "go"
          exact hN6 _ _ ⟨known, fresh, _, _, _, I0.step hr fun r0 x0 h1 h2 h3 => H0 r0 (mem_prds.mpr ⟨x0, h1, h2⟩) x0 h1 h3, jd, ek, ez, rfl⟩
      · obtain ⟨known, fresh, s8, s10, s11, I0, jd, ek, ez, rfl⟩ := hJ
        rw [List.length_map] at I0
        subst hN5
        walk_at "go"
        exact hN4 _ _ ⟨known, fresh, _, _, _, _, _, Rd.next I0, jd.del zO zD, by rw [odel_ne (Ne.symm zk)]; exact ek, rfl⟩
    · obtain ⟨known, waiting, s7, s8, s9, s10, s11, R0, jd, ek, rfl⟩ := hJ
      have hln : (rngD 0 (rows.length + 1)).length = rows.length + 1 := by simp only [rngD, List.length_map, List.length_range]
      rw [hln] at R0
      have hall := fun r => R0.all (by omega) r
      subst hN3
      walk_at "go"
      refine go_sortDI ek (ks := known.map fun (r : Nat) => (r : Int)) (by rw [List.map_map, List.map_map]; rfl) ?_ fun ys hp hs => ?_
      · rw [List.length_map]
        have := R0.kn.len
        omega
      walk_at "go"
      have hmem : ∀ y : Int, y ∈ ys → ∃ r : Nat, y = r ∧ r ∈ known := fun y hy => by
        obtain ⟨r, h1, h2⟩ := List.mem_map.mp (hp.subset hy)
        exact ⟨r, h2.symm, h1⟩
      have hys : ∀ r : Nat, ((r : Int) ∈ ys) ↔ Nd rows cc r := fun r => by
        rw [← hall r]
        refine ⟨fun h => ?_, fun h => hp.symm.subset (List.mem_map_of_mem h)⟩
        obtain ⟨r', e, h2⟩ := hmem _ h
        rw [show r = r' by omega]; exact h2
      have hnd : ys.Nodup := by
        refine hp.nodup_iff.mpr ?_
        unfold List.Nodup
        rw [List.pairwise_map]
        exact R0.kn.nd.imp fun {a b} hab e => hab (by omega)
      refine go_for (ys.map D.int) (fun i ρ O4 => ∃ (l2 : List (Addr × List D)) (s8 s9 s10 s11 : Sl), JD O pf l2 O4 ∧ l2.map (·.2) = (List.range rows.length).map (accR rows cc (ys.take i)) ∧ ρ = [.sh (.lst (rows.map Rw.d)), .sh (natD nc), .sh (.opq (.ref pf)), .sh (.lst AH), .sh (natD cc), .sh (.lst (waiting.map natD)), .sh (.opq (.ref pk)), s7, s8, s9, s10, s11])
        ⟨l, _, _, _, _, jd, by rw [hl, List.take_zero]; exact List.map_congr_left fun r _ => accR_nil.symm, rfl⟩ (fun i di hdi ρ O4 hJ N6 hN6 => ?_) (fun ρ O4 hJ => ?_)
      · clear jd hl s8 s9 s10 s11
        obtain ⟨l3, s8, s9, s10, s11, jd, hl, rfl⟩ := hJ
        rw [List.getElem?_map] at hdi
        obtain ⟨y, hy, rfl⟩ := Option.map_eq_some_iff.mp hdi
        obtain ⟨r, rfl, hrk⟩ := hmem y (List.mem_of_getElem? hy)
        have hrl2 : r < rows.length := (R0.kn.n r hrk).lt
        have hll : l3.length = rows.length := by
          have := congrArg List.length hl
          rwa [List.length_map, List.length_map, List.length_range] at this
        obtain ⟨x, hx⟩ : ∃ x, l3[r]? = some x := ⟨_, List.getElem?_eq_getElem (by rw [hll]; exact hrl2)⟩
        have hnot : (r : Int) ∉ ys.take i := fun hm => by
          obtain ⟨j, hj⟩ := List.getElem?_of_mem hm
          rw [List.getElem?_take] at hj
          split at hj
          · rename_i hji
            have := nodup_idx hnd hj hy
            omega
          · cases hj
        have e1 : atI (l3.map fun x => D.opq (.ref x.1)) (r : Int) = some (.opq (.ref x.1)) := atI_nat (by rw [List.getElem?_map, hx]; rfl)
        have e0 : O4 pf = some (.lst (l3.map fun x => D.opq (.ref x.1))) := jd.d.hd
        have ex2 : O4 x.1 = some (.lst x.2) := jd.d.o x (List.mem_of_getElem? hx)
        have hxl : x.2.length ≤ 900 := by
          have h2 : (l3.map (·.2))[r]? = some x.2 := by rw [List.getElem?_map, hx]; rfl
          rw [hl, List.getElem?_map, List.getElem?_range hrl2] at h2
          rw [← Option.some.inj h2]
          unfold accR
          rw [List.length_append, List.length_map]
          have := List.length_filter_le (fun c => ndB rows c r) (List.range cc)
          rw [List.length_range] at this
          split <;> simp <;> omega
        refine go_set (ρ' := [.sh (.lst (rows.map Rw.d)), .sh (natD nc), .sh (.opq (.ref pf)), .sh (.lst AH), .sh (natD cc), .sh (.lst (waiting.map natD)), .sh (.opq (.ref pk)), s7, .sh (natD r), s9, s10, s11]) rfl ?_
        walk_at "go"
        refine hN6 _ _ ⟨l3.set r (x.1, x.2 ++ [natD cc]), _, _, _, _, jd.up hx, ?_, rfl⟩
        rw [List.take_succ, hy]
        exact accR_step hl hx hnot
      · obtain ⟨l2, s8, s9, s10, s11, jd, hl, rfl⟩ := hJ
        rw [List.length_map, List.take_length] at hl
        walk_at "go"
        exact hN2 _ _ ⟨l2, _, _, _, _, _, _, _, _, jd, by rw [hl]; exact List.map_congr_left fun r _ => accR_end (hys r), rfl⟩
end
end LW
set_option Elab.async false
set_option linter.all false
set_option maxRecDepth 100000
set_option maxHeartbeats 8000000
set_option pp.maxSteps 900
namespace LW
open PySem PySem.Spec PyProof.Rows L2 EV PySem.XO PySem.W LamX
abbrev s_law : Stmt := topS 50
abbrev N_law : List Str := ["_law_script", "_law_box_here", "_law_turn", "_law_plan_here", "_law_told", "_law_due", "_law_found"]
theorem sc_law : FnScope N_law ["_law_script"] (defScope s_law) := ⟨rfl, rfl, rfl, by decide +kernel, rfl, by decide +kernel, by decide +kernel⟩
local macro_rules | `(tactic| walk_at "fd") => `(tactic| first | assumption | rfl)
local macro_rules | `(tactic| walk_at "ow") => `(tactic| first | assumption | exact oset_self | (rw [oset_ne (by assumption)]; walk_at "ow") | (rw [oset_ne (Ne.symm (by assumption))]; walk_at "ow"))
local macro_rules | `(tactic| walk_at "ix") => `(tactic| first | exact EV.ga0 | exact EV.ga1 | exact EV.ga2 | exact EV.ga3 | exact EV.ga4 | exact EV.ga5 | exact EV.ga6 | exact EV.ga7 | exact EV.ga8 | exact EV.ga9 | exact EV.ga10 | exact EV.ga11 | exact EV.ga12 | exact EV.ga13 | exact EV.ga14 | exact EV.ga15 | assumption | rfl)
local macro_rules | `(tactic| walk_at "sz") => `(tactic| first | exact trivial | (with_reducible assumption) | omega | ((with_reducible refine szR ?_); exact rfl) | ((with_reducible refine szk' ?_); omega) | ((with_reducible refine szl ?_); omega) | exact szlt rfl | rfl | exact ⟨rfl, by assumption⟩ | exact ⟨rfl, rfl⟩ | exact ⟨_, rfl⟩ | ((with_reducible refine szk' ?_); simp only [List.length_cons, List.length_nil, List.length_append, List.length_map]; omega) | (unfold CMul; omega) | (unfold CDiv; omega) | (unfold CPow; exact ⟨by omega, by omega, by omega⟩) | (constructor; · omega; · omega))
local macro_rules | `(tactic| walk_at "val") => `(tactic| first | assumption | exact rfl)
local macro_rules | `(tactic| walk_at "ty") => `(tactic| first | assumption | exact rfl)
local macro_rules | `(tactic| walk_at "bt") => `(tactic| first | exact rfl | assumption)
local macro_rules | `(tactic| walk_at "n") => `(tactic| refine st_norm (by simp only [List.set_cons_succ, List.set_cons_zero]; rfl) ?_)
local macro_rules | `(tactic| walk_at "wh") => `(tactic| with_reducible conv => whnf)
local macro_rules | `(tactic| walk_at "call") => `(tactic| fail)
local macro_rules | `(tactic| walk_at "go1") => `(tactic| first
  | ((with_reducible apply go_var); (· exact rfl))
  | ((with_reducible apply go_varF); (· exact rfl); (· walk_at "ow"))
  | ((with_reducible apply go_set); (· (simp only [wipeD, List.map_cons, List.map_nil, List.set_cons_succ, List.set_cons_zero]; rfl)))
  | ((with_reducible apply go_fld); (· walk_at "fd"))
  | ((with_reducible apply go_fldH); (· walk_at "ow"); (· walk_at "fd"))
  | ((with_reducible apply go_ixT); (· walk_at "ix"))
  | ((with_reducible apply go_ixL); (· walk_at "ix"))
  | ((with_reducible apply go_ixH); (· walk_at "ow"); (· walk_at "ix"))
  | ((with_reducible apply go_bcT); (· walk_at "bt"))
  | ((with_reducible apply go_bcF); (· walk_at "bt"))
  | ((with_reducible apply go_methH); (· walk_at "ow"); (· walk_at "fd"))
  | ((with_reducible apply And.intro); (· walk_at "sz"))
  | ((with_reducible apply go_lm); (· walk_at "ow"))
  | ((with_reducible apply go_lm2); (· walk_at "ow"))
  | ((with_reducible apply go_app); (· walk_at "sz"))
  | ((with_reducible apply go_ext); (· walk_at "sz"))
  | ((with_reducible apply go_setF); (· walk_at "ow"))
  | ((with_reducible apply go_frz); (· walk_at "ow"))
  | ((with_reducible apply go_atK); (· walk_at "val"))
  | ((with_reducible apply go_atS); (· walk_at "val"))
  | ((with_reducible apply go_atI); (· walk_at "val"))
  | ((with_reducible apply go_atHK); (· walk_at "ow"); (· walk_at "val"))
  | ((with_reducible apply go_atHS); (· walk_at "ow"); (· walk_at "val"))
  | ((with_reducible apply go_dputS); (· walk_at "ow"); (· walk_at "sz"))
  | ((with_reducible apply go_dputK); (· walk_at "ow"); (· walk_at "sz"))
  | (with_reducible apply go_eqI)
  | (with_reducible apply go_eqS)
  | (with_reducible apply go_eqB)
  | (with_reducible apply go_neg)
  | (with_reducible apply go_lenL)
  | (with_reducible apply go_lenT)
  | ((with_reducible apply go_lenS); (· walk_at "sz"))
  | ((with_reducible apply go_lenH); (· walk_at "ow"))
  | (with_reducible apply go_tupL)
  | (with_reducible apply go_tupT)
  | ((with_reducible apply go_tupH); (· walk_at "ow"))
  | (with_reducible apply go_listL)
  | (with_reducible apply go_listT)
  | ((with_reducible apply go_listH); (· walk_at "ow"))
  | (with_reducible apply go_all)
  | (with_reducible apply go_any)
  | ((with_reducible apply go_isi); (· exact rfl); (· walk_at "ty"); (· walk_at "val"))
  | ((with_reducible apply go_inS); (· exact rfl))
  | ((with_reducible apply go_inSL); (· exact rfl))
  | ((with_reducible apply go_sortS); (· walk_at "sz"))
  | (with_reducible apply go_own)
  | (with_reducible apply go_pnil)
  | (with_reducible apply go_pcons)
  | ((with_reducible apply go_lcNil); (· exact trivial))
  | (with_reducible apply go_lcCons)
  | (with_reducible apply go_min2)
  | walk_at "call")
local macro_rules | `(tactic| walk_at "go") => `(tactic| (walk_at "wh"; repeat (walk_at "go1"; walk_at "wh")))
local macro_rules | `(tactic| walk_at "all") => `(tactic| (walk_at "wh"; repeat ((first | walk_at "go1" | (with_reducible refine go_st fun _ _ => ?_) | (with_reducible apply goN; (· assumption))); walk_at "wh")))
theorem stp_rx {c m : Nat} {w0 w1 : Str} {d : D} (h : Stp (c : Int) (m : Int) w0 w1 d) : ∃ x : Rw, d = x.d ∧ x.ok c m [(w0, 2, []), (w1, 1, [])] := by
  obtain ⟨a, b, j, a0, ac, b0, bc, j0, jm, h⟩ := h
  obtain ⟨a, rfl⟩ := Int.eq_ofNat_of_zero_le a0
  obtain ⟨b, rfl⟩ := Int.eq_ofNat_of_zero_le b0
  obtain ⟨j, rfl⟩ := Int.eq_ofNat_of_zero_le j0
  have ac : a < c := by omega
  have bc : b < c := by omega
  have jm : j < m := by omega
  simp only [stpL, List.mem_cons, List.not_mem_nil, or_false] at h
  rcases h with rfl | rfl | rfl | rfl | rfl | rfl | rfl | rfl | rfl | rfl | rfl | rfl
  · exact ⟨.read a, rfl, ac⟩
  · exact ⟨.zero a, rfl, ac⟩
  · exact ⟨.top a, rfl, ac⟩
  · exact ⟨.up a, rfl, ac⟩
  · exact ⟨.same a b j, rfl, ac, bc, jm⟩
  · exact ⟨.less a b j, rfl, ac, bc, jm⟩
  · exact ⟨.copy a b, rfl, ac, bc⟩
  · exact ⟨.has w1 a j, rfl, ac, jm, [], by simp⟩
  · exact ⟨.link w0 a b j, rfl, ac, bc, jm, [], by simp⟩
  · exact ⟨.jump j, rfl, jm⟩
  · exact ⟨.fin, rfl, trivial⟩
  · exact ⟨.ref, rfl, trivial⟩
theorem list_rx {P : Rw → Prop} : ∀ {ds : List D}, (∀ d ∈ ds, ∃ x : Rw, d = x.d ∧ P x) → ∃ xs : List Rw, ds = xs.map Rw.d ∧ ∀ x ∈ xs, P x
  | [], _ => ⟨[], rfl, fun _ h => by cases h⟩
  | d :: ds, h => by
    obtain ⟨x, e, p⟩ := h d List.mem_cons_self
    obtain ⟨xs, e2, q⟩ := list_rx fun d hd => h d (List.mem_cons_of_mem _ hd)
    refine ⟨x :: xs, by rw [e, e2]; rfl, fun y hy => ?_⟩
    rcases List.mem_cons.mp hy with rfl | hy
    · exact p
    · exact q y hy
theorem ok_cel {c m : Nat} {T : List (Str × Nat × List (List Int))} {x : Rw} (h : x.ok c m T) : ∀ a ∈ x.cel, a < c := by
  intro a ha
  cases x <;> simp only [Rw.cel, Rw.ok, List.mem_cons, List.not_mem_nil, or_false] at ha h <;> (try cases ha) <;> (try subst_vars) <;> (try omega) <;> (try exact h.1) <;> (try exact h.2.1) <;> exact h
theorem ok_fol {c m r : Nat} {T : List (Str × Nat × List (List Int))} {x : Rw} (h : x.ok c m T) (hr : x.goes = true → r + 1 < m) : ∀ a ∈ x.fol r, a < m := by
  intro a ha
  cases x <;> simp only [Rw.fol, Rw.ok, Rw.goes, List.mem_cons, List.not_mem_nil, or_false] at ha h hr <;> (try have hr := hr trivial) <;> rcases ha with rfl | rfl <;> first | omega | exact h | exact h.2.1 | exact h.2.2 | exact h.2.2.1 | exact hr
theorem plan_rx {cap i : Nat} {w0 w1 : Str} {cs rs : List D} (hp : Plan cap w0 w1 cs rs i) : ∃ rows : List Rw, rs = rows.map Rw.d ∧ (∀ x ∈ rows, ∀ c ∈ x.cel, c < cs.length) ∧ (∀ (r : Nat) (x : Rw), rows[r]? = some x → ∀ r' ∈ x.fol r, r' < rows.length) := by
  obtain ⟨ys, z, ers, yl, hy, hz⟩ := hp.hrs
  obtain ⟨yr, ey, hyr⟩ := list_rx (P := fun x => x.ok cs.length rs.length [(w0, 2, []), (w1, 1, [])]) (ds := ys) fun d hd => stp_rx (hy d hd)
  obtain ⟨zr, ez, hzk, hzg⟩ : ∃ x : Rw, z = x.d ∧ x.ok cs.length rs.length [(w0, 2, []), (w1, 1, [])] ∧ x.goes = false := by
    rcases hz with rfl | rfl | ⟨j, j0, j1, rfl⟩
    · exact ⟨.fin, rfl, trivial, rfl⟩
    · exact ⟨.ref, rfl, trivial, rfl⟩
    · obtain ⟨j, rfl⟩ := Int.eq_ofNat_of_zero_le j0
      exact ⟨.jump j, rfl, (by show j < rs.length; omega), rfl⟩
  have er : rs = (yr ++ [zr]).map Rw.d := by rw [ers, ey, ez, List.map_append]; rfl
  have rl2 : rs.length = (yr ++ [zr]).length := by rw [er, List.length_map]
  have hok : ∀ x ∈ yr ++ [zr], x.ok cs.length rs.length [(w0, 2, []), (w1, 1, [])] := fun x hx => by
    rcases List.mem_append.mp hx with hx | hx
    · exact hyr x hx
    · rw [List.mem_singleton] at hx
      rw [hx]; exact hzk
  refine ⟨yr ++ [zr], er, fun x hx => ok_cel (hok x hx), fun r x hx => ?_⟩
  rw [← rl2]
  refine ok_fol (hok x (List.mem_of_getElem? hx)) fun hg => ?_
  have hr : r < (yr ++ [zr]).length := by
    rcases Nat.lt_or_ge r (yr ++ [zr]).length with h | h
    · exact h
    · rw [List.getElem?_eq_none h] at hx; cases hx
  rw [List.length_append] at hr rl2
  simp only [List.length_cons, List.length_nil] at hr rl2
  rcases Nat.lt_or_ge r yr.length with h | h
  · omega
  · have : r = yr.length := by omega
    rw [this, List.getElem?_append_right (Nat.le_refl _), Nat.sub_self] at hx
    cases hx
    rw [hzg] at hg; cases hg
noncomputable def dueD (rows : List Rw) (nc : Nat) : D := .lst ((List.range rows.length).map fun r => .lst ((ndL rows nc r).map natD))
theorem deep_due {rows : List Rw} {nc : Nat} {l : List (Addr × List D)} (e : l.map (·.2) = (List.range rows.length).map (fun r => (ndL rows nc r).map natD)) : deepD l = dueD rows nc := by
  have := congrArg (fun z : List (List D) => D.lst (z.map D.lst)) e
  rw [List.map_map, List.map_map] at this
  exact this
theorem plain_due {rows : List Rw} {nc : Nat} (h1 : rows.length ≤ 900) (h2 : nc ≤ 900) : Plain 3 (dueD rows nc) := by
  refine ⟨szk' (by rw [List.length_map, List.length_range]; omega), fun x hx => ?_⟩
  obtain ⟨r, _, rfl⟩ := List.mem_map.mp hx
  refine ⟨szk' (by
    rw [List.length_map]
    have := List.length_filter_le (fun c => ndB rows c r) (List.range nc)
    rw [List.length_range] at this
    show ((List.range nc).filter fun c => ndB rows c r).length ≤ 1000
    omega), fun x hx => ?_⟩
  obtain ⟨v, _, rfl⟩ := List.mem_map.mp hx
  exact trivial
def HidA (O : Ow) : Prop := ∀ q d, O q = some d → hidable d = true
theorem HidA.due {O O1 : Ow} {f : Addr} {l : List (Addr × List D)} (h : HidA O) (nn : ∀ a, a ∉ deepA f l → O1 a = O a) : HidA (odelL O1 (deepA f l)) := fun q d e => by
  by_cases hm : q ∈ deepA f l
  · rw [odelL_in hm] at e; cases e
  · rw [odelL_out hm, nn q hm] at e; exact h q d e
theorem noLs_nats (l : List Nat) : noLs (l.map natD) = true := noLs_of fun x hx => by
  obtain ⟨v, _, rfl⟩ := List.mem_map.mp hx; rfl
theorem HidA.deep {O O1 : Ow} {f : Addr} {rows : List Rw} {nc : Nat} {l : List (Addr × List D)} (h : HidA O) (dp : Deep O1 f l) (e : l.map (·.2) = (List.range rows.length).map (fun r => (ndL rows nc r).map natD)) (nn : ∀ a, a ∉ deepA f l → O1 a = O a) : HidA O1 := fun q d eq => by
  by_cases hm : q ∈ deepA f l
  · rcases List.mem_cons.mp hm with rfl | hm
    · rw [dp.hd] at eq; cases eq
      exact noLs_of fun x hx => by
        obtain ⟨y, _, rfl⟩ := List.mem_map.mp hx; rfl
    · obtain ⟨x, hx, rfl⟩ := List.mem_map.mp hm
      rw [dp.o x hx] at eq; cases eq
      have : x.2 ∈ l.map (·.2) := List.mem_map_of_mem hx
      rw [e] at this
      obtain ⟨r, _, e2⟩ := List.mem_map.mp this
      show noLs x.2 = true
      rw [← e2]; exact noLs_nats _
  · rw [nn q hm] at eq; exact h q d eq
theorem call_sameK {n : Nat} {a : D} {O : Ow} {Q : QD} {E : QX} (p : Plain n a) (q : Q (.bl true) O) : spM (sameS n) [a, a] O Q E := spM.of ⟨a, a, rfl, p, p, by rw [same_refl n a p]; exact q⟩
section
variable {w : World} {K : PySem.W.Frag} {mg : Str → Option Value} {base : Heap}
theorem ok_law {fB fW fL fM fS fN fD C : Addr} {fd fdB fdW fdL fdM fdS fdN fdD : FuncData} (F : Fun K "law" "law" s_law (He.fAd K ("law", none)) fd)
    (G_box : FnOk Pr w K mg base CX0 1 fB fdB ["_law_script"] (spBox K)) (T_box : Gf K mg "_law_box" fB fdB ["_law_script"])
    (G_words : FnOk Pr w K mg base CX0 3 fW fdW ["_law_box_here", "_law_many"] (spB K wordsS)) (T_words : Gf K mg "_law_words" fW fdW ["_law_box_here", "_law_many"])
    (G_plan : FnOk Pr w K mg base CX0 4 fL fdL ["_law_box_here", "_law_words_here", "_law_cap"] (spB K planS)) (T_plan : Gf K mg "_law_plan" fL fdL ["_law_box_here", "_law_words_here", "_law_cap"])
    (G_made : FnOk Pr w K mg base CX0 6 fM fdM ["_law_plan_here"] (spD K (madeS (He.ga K) C))) (T_made : Gf K mg "_law_made" fM fdM ["_law_plan_here"])
    (G_same : FnOk Pr w K mg base CX0 5 fS fdS ["_law_found", "_law_due"] (spD K (sameS 3))) (T_same : Gf K mg "_law_same" fS fdS ["_law_found", "_law_due"])
    (G_lneeded : FnOk Pr w K mg base CX0 2 fN fdN ["_law_rows", "_law_cells"] (spD K lneedS)) (T_lneeded : Gf K mg "_law_needed" fN fdN ["_law_rows", "_law_cells"])
    (G_needed : FnOk Pr w K mg base CX0 4 fD fdD ["reader"] (spD K (neededS C))) (T_needed : Gf K mg "needed" fD fdD ["reader"])
    (m_len : mg "len" = none) (m_range : mg "range" = none) :
    FnOk Pr w K mg base CX0 12 (He.fAd K ("law", none)) fd ["_law_script"] (spLaw K []) := by
  refine Fun.okC F sc_law (fun vs H Q E h => ?_) (fun A outer s H vs Q E hr h => ?_)
  · obtain ⟨a, ns, rfl, _⟩ := h; rfl
  · obtain ⟨a, ns, rfl, hS, hT, q⟩ := h
    have D1 : ∀ (b l : Addr), DPSs (cxOf CX0 Pr w K mg base N_law "law" (defScope s_law) (He.fAd K ("law", none)) (.ref (He.codeOf K ("law", none))) A outer s H E).nox ⟨boB b l [], fun _ _ _ _ => False⟩ (defBody s_law).tail _ := fun b l =>
      (d_scons (d_for PassesOwn.never rfl (d_rng1 rfl m_range (d_cons d_int d_nil rfl) rfl) (dg_name (i := 2) sc_law.nd rfl (.inl rfl) (.inl rfl)) (d_scons (d_set (i := 3) sc_law.nd rfl (.inl rfl) (d_callX G_plan rfl (hr.mono (by decide)) rfl T_plan.m T_plan.k T_plan.b (fun _ => pass0A) (d_cons (d_var (i := 1) rfl (.inl rfl) (by decide) (by decide)) (d_cons (d_callX G_words rfl (hr.mono (by decide)) rfl T_words.m T_words.k T_words.b (fun _ => pass0A) (d_cons (d_var (i := 1) rfl (.inl rfl) (by decide) (by decide)) (d_cons d_int d_nil rfl) rfl) (by decide) rfl rfl) (d_cons d_int d_nil rfl) rfl) rfl) (by decide) rfl rfl) rfl (.inl rfl))
      (d_scons (d_set (i := 4) sc_law.nd rfl (.inl rfl) (d_call G_made (hr.mono (by decide)) rfl T_made.m T_made.k T_made.b (fun _ => pass0A) (d_cons (d_var (i := 3) rfl (.inl rfl) (by decide) (by decide)) d_nil rfl) (by decide) rfl rfl) rfl (.inl rfl))
      (d_scons (d_set (i := 5) sc_law.nd rfl (.inl rfl) (d_frzD (d_call G_lneeded (hr.mono (by decide)) rfl T_lneeded.m T_lneeded.k T_lneeded.b (fun _ => pass0A) (d_cons (d_ix (d_var (i := 3) rfl (.inl rfl) (by decide) (by decide)) d_int (fun _ _ => rfl)) (d_cons (d_callB cd_len rfl m_len boot_len (d_cons (d_ix (d_var (i := 3) rfl (.inl rfl) (by decide) (by decide)) d_int (fun _ _ => rfl)) d_nil rfl) (by decide) (by decide) rfl rfl) d_nil rfl) rfl) (by decide) rfl rfl)) rfl (.inl rfl))
      (d_scons (d_set (i := 6) sc_law.nd rfl (.inl rfl) (d_call G_needed (hr.mono (by decide)) rfl T_needed.m T_needed.k T_needed.b (fun _ => pass0A) (d_cons (d_var (i := 4) rfl (.inl rfl) (by decide) (by decide)) d_nil rfl) (by decide) rfl rfl) rfl (.inl rfl))
      (d_scons (d_ifS (d_tnot (d_test (d_thawD (i := 6) (d_call G_same (hr.mono (by decide)) rfl T_same.m T_same.k T_same.b (fun _ => pass0A) (d_cons (d_var (i := 6) rfl (.inl rfl) (by decide) (by decide)) (d_cons (d_var (i := 5) rfl (.inl rfl) (by decide) (by decide)) d_nil rfl) rfl) (by decide) rfl rfl)) (by intro _; rfl))) (d_sone (d_ret d_bl)) d_snil)
      (d_scons (d_expr (d_lm lm_app (d_ix (d_var (i := 6) rfl (.inl rfl) (by decide) (by decide)) d_int (fun _ _ => rfl)) (d_cons d_int d_nil rfl) rfl rfl rfl rfl rfl) rfl)
      (d_sone (d_ifS (d_tnot (d_test (d_call G_same (hr.mono (by decide)) rfl T_same.m T_same.k T_same.b (fun _ => pass0A) (d_cons (d_frzD (d_call G_needed (hr.mono (by decide)) rfl T_needed.m T_needed.k T_needed.b (fun _ => pass0A) (d_cons (d_var (i := 4) rfl (.inl rfl) (by decide) (by decide)) d_nil rfl) (by decide) rfl rfl)) (d_cons (d_var (i := 5) rfl (.inl rfl) (by decide) (by decide)) d_nil rfl) rfl) (by decide) rfl rfl) (by intro _; rfl))) (d_sone (d_ret d_bl)) d_snil)))))))) (fun _ => rfl))
      (d_sone (d_ret d_bl)))
    refine ⟨_, pss_cons (ps_set (i := 1) sc_law.nd rfl (.inl rfl) (pe_call G_box (hr.mono (by decide)) rfl T_box.m T_box.k T_box.b .nil pass0 (pa_cons (pv 0) pa_nil))) (pss_box D1), ?_⟩
    refine ⟨.ref a, rfl, a, ns, rfl, hS, fun b l mm ms H1 sm nb hb hl ne m0 m1 => ⟨b, l, law_read (n := N_law.length - 2) (D1 b l).mo hb hl ne (fun p hp => ?_) m0 m1 q ?_⟩⟩
    · exact absurd hp List.not_mem_nil
    rw [show boxed b (N_law.length - 2) = [.un, .sh (.opq (.ref b)), .un, .un, .un, .un, .un] from rfl]
    clear D1
    refine go_st fun N hN => ?_
    walk_at "go"
    refine go_for (rngD 0 8) (fun _ ρ O => HidA O ∧ ∃ s2 s3 s4 s5 s6 : Sl, ρ = [.un, .sh (.opq (.ref b)), s2, s3, s4, s5, s6]) ⟨(fun a d h => by cases h), _, _, _, _, _, rfl⟩ ?_ ?_
    rotate_left
    · rintro r O ⟨_, s2, s3, s4, s5, s6, rfl⟩
      subst hN
      walk_at "go"
    rintro i0 dt hd ρ O ⟨HA, s2, s3, s4, s5, s6, rfl⟩ N2 hN2
    subst hN
    refine go_set (ρ' := [.un, .sh (.opq (.ref b)), .sh dt, s3, s4, s5, s6]) rfl ?_
    refine go_st fun N hN => ?_
    walk_at "go"
    refine spM.of ⟨3, rfl, by decide, fun ws hl hn hd => ?_⟩
    match ws, hl, hn, hd with
    | [w0, w1, w2], _, hn, hd =>
    have n0 : isNm (.str w0) = true := hn _ (by simp)
    have n1 : isNm (.str w1) = true := hn _ (by simp)
    simp only [List.nodup_cons, List.mem_cons, not_or] at hd
    have ne2 : w0 ≠ w1 := hd.1.1
    clear hn hd
    walk_at "go"
    refine spM.of ⟨12, w0, w1, [w2], rfl, by decide, by decide, fun cs rs ni hp => ?_⟩
    walk_at "go"
    obtain ⟨c1, c3, ci, hc, _⟩ := hp.cell
    obtain ⟨hr2, l1, l2, _⟩ := hp.rows
    have tc : ∀ c ∈ cs, (tyD c).isSome = true := fun c h => (hc c h).2
    have hg := hp.good (AA := He.ga K) (by decide) n0 n1 ne2
    have hfl : ∀ r ∈ rs, Flat1 r := fun r h => rowy_flat (rowy_of n0 n1 (hr2 r h))
    obtain ⟨rows, rfl, hcel, hfol⟩ := plan_rx hp
    rw [List.length_map] at l1 l2
    clear hp hr2 hc n0 n1 ne2
    subst hN
    refine go_st fun N hN => ?_
    walk_at "go"
    refine spM.of ⟨cs, _, _, rfl, szk (by omega), szl' (by rw [List.length_map]; omega), tc, rfl, hfl, hg, ?_⟩
    walk_at "go"
    subst hN
    refine go_st fun N hN => ?_
    walk_at "go"
    refine spM.of ⟨rows, cs.length, rfl, by omega, by omega, hfol, fun f l O1 dp nf nl nn e => ?_⟩
    refine ⟨f, l, rfl, dp, ?_⟩
    rw [deep_due e]
    have HA2 := HA.due nn
    generalize odelL O1 (deepA f l) = O2 at HA2 ⊢
    clear dp nf nl nn e f l O1 HA O
    obtain ⟨DU, hDU⟩ : ∃ DU, DU = dueD rows cs.length := ⟨_, rfl⟩
    have pDU : Plain 3 DU := by rw [hDU]; exact plain_due (by omega) (by omega)
    rw [← hDU]
    walk_at "go"
    subst hN
    refine go_st fun N hN => ?_
    walk_at "go"
    refine spM.of ⟨cs, _, rows, cs.length, rfl, rfl, by omega, by omega, hcel, hfol, fun f l O1 dp nf nl nn e => ?_⟩
    have eD : deepD l = DU := by rw [hDU]; exact deep_due e
    walk_at "go"
    subst hN
    refine go_st fun N hN => ?_
    walk_at "go"
    refine ⟨f, l, rfl, dp, fun q d h1 h2 => HA2 q d (by rw [← nn q h1]; exact h2), fun Oh hh => ?_⟩
    rw [eD]
    have HA1 := HA2.deep dp e nn
    walk_at "go"
    refine call_sameK (n := 3) pDU ?_
    walk_at "go"
    subst hN
    refine go_st fun N hN => ?_
    have hll : l.length = rows.length := by
      have := congrArg List.length e
      rwa [List.length_map, List.length_map, List.length_range] at this
    obtain ⟨x, hx⟩ : ∃ x, l[0]? = some x := ⟨_, List.getElem?_eq_getElem (by rw [hll]; exact l1)⟩
    have xm := List.mem_of_getElem? hx
    have e1 : atI (l.map fun x => D.opq (.ref x.1)) 0 = some (.opq (.ref x.1)) := atI_nat (j := 0) (by rw [List.getElem?_map, hx]; rfl)
    have e0 : O1 f = some (.lst (l.map fun x => D.opq (.ref x.1))) := dp.hd
    have ex2 : O1 x.1 = some (.lst x.2) := dp.o x xm
    obtain ⟨r, _, er⟩ : ∃ r ∈ List.range rows.length, (ndL rows cs.length r).map natD = x.2 := by
      have : x.2 ∈ l.map (·.2) := List.mem_map_of_mem xm
      rw [e] at this
      exact List.mem_map.mp this
    have hxl : x.2.length ≤ 900 := by
      rw [← er, List.length_map]
      have := List.length_filter_le (fun c => ndB rows c r) (List.range cs.length)
      rw [List.length_range] at this
      show ((List.range cs.length).filter fun c => ndB rows c r).length ≤ 900
      omega
    walk_at "go"
    have HA3 : HidA (oset O1 x.1 (.lst (x.2 ++ [.int 99]))) := fun q d eq => by
      by_cases hq : q = x.1
      · rw [hq, oset_same] at eq; cases eq
        show noLs (x.2 ++ [.int 99]) = true
        refine noLs_of fun y hy => ?_
        rw [← er] at hy
        rcases List.mem_append.mp hy with hy | hy
        · obtain ⟨v, _, rfl⟩ := List.mem_map.mp hy; rfl
        · rw [List.mem_singleton] at hy; rw [hy]; rfl
      · rw [oset_ne hq] at eq; exact HA1 q d eq
    generalize oset O1 x.1 (.lst (x.2 ++ [.int 99])) = O5 at HA3 ⊢
    subst hN
    walk_at "go"
    refine spM.of ⟨cs, _, rows, cs.length, rfl, rfl, by omega, by omega, hcel, hfol, fun f2 l2 O6 dp nf nl nn e => ?_⟩
    refine ⟨f2, l2, rfl, dp, ?_⟩
    rw [show deepD l2 = DU by rw [hDU]; exact deep_due e]
    have HA4 := HA3.due nn
    walk_at "go"
    refine call_sameK (n := 3) pDU ?_
    walk_at "go"
    exact hN2 _ _ ⟨HA4, _, _, _, _, _, rfl⟩
end
end LW
set_option Elab.async false
set_option linter.all false
set_option maxRecDepth 100000
set_option maxHeartbeats 0
namespace LW
open PySem PySem.Spec PyProof.Rows L2 EV PySem.XO PySem.W LamX
theorem def_of {K : PySem.W.Frag} (c : He.SaysD fa fn K) (i : Nat) (x : Str) (st : Stmt) (h : fn[i]? = some (dd x st)) : ∃ fd, FnP K x st (He.ga K x) fd := c.def_ i h
theorem dmk_of {K : PySem.W.Frag} (c : He.SaysD fa fn K) (i : Nat) (cl x q : Str) (st : Stmt) (kws : List (Str × He.Dv)) (kv : List (Str × V)) (h : fn[i]? = some (dmk cl x q st kws)) (e : (kws.map fun q => (q.1, q.2.v K)) = kv) : ∃ fd, FunD K x q (defArgs st) (defBody st) (defScope st) [] kv (He.ma K (He.ga K cl) x) fd := by subst e; exact c.def_ i h
theorem facts {w : World} {K : PySem.W.Frag} {h : Heap} {mg : Str → Option Value} {f : Addr} (X : K.In h) (G : h.Ns mainGlobals mg) (hfa : mg ("law" : Str) = some (.ref f)) (c0 : SaysJ fa fn ts inL tf exT w h K) :
    LawAtS PySem.Challenge.rw_oncethrough_k44_needed_cells w K CX0 12 63 "_law_script" mg f h := by
  have c := c0.i.t.d
  have hin := c0.i.ini
  have hexT := c0.i.more
  simp only [exT, Bool.and_eq_true] at hexT
  obtain ⟨hex, ex_FORMS, ex_PLACES, ex_LAST, ex_TESTS⟩ := hexT
  obtain ⟨es_FORMS, n_FORMS, kd_FORMS⟩ := c0.i.t.tab 0 rfl
  have TK_FORMS : TabK K w (He.ga K "FORMS") formsT := tabK_of kd_FORMS ex_FORMS
  obtain ⟨es_PLACES, n_PLACES, kd_PLACES⟩ := c0.i.t.tab 1 rfl
  have TK_PLACES : TabK K w (He.ga K "PLACES") placesT := tabK_of kd_PLACES ex_PLACES
  obtain ⟨fd0, F0⟩ := def_of c 0 "_law_box" s_box rfl
  obtain ⟨fd1, F1⟩ := def_of c 1 "_law_pull" s_pull rfl
  obtain ⟨fd2, F2⟩ := def_of c 2 "_law_of" s_of rfl
  obtain ⟨fd3, F3⟩ := def_of c 3 "_law_words" s_words rfl
  obtain ⟨fd4, F4⟩ := def_of c 4 "_law_same" s_same rfl
  obtain ⟨fd5, F5⟩ := def_of c 5 "_law_step" s_step rfl
  obtain ⟨fd6, F6⟩ := def_of c 6 "_law_plan" s_plan rfl
  obtain ⟨fd7, F7⟩ := def_of c 7 "_law_made" s_made rfl
  obtain ⟨fd8, F8⟩ := def_of c 8 "_law_following" s_lfollowing rfl
  obtain ⟨fd9, F9⟩ := def_of c 9 "_law_used" s_used rfl
  obtain ⟨fd10, F10⟩ := def_of c 10 "_law_sets" s_sets rfl
  obtain ⟨fd11, F11⟩ := def_of c 11 "_law_needed" s_lneeded rfl
  obtain ⟨fd12, F12⟩ := def_of c 12 "law" s_law rfl
  obtain ⟨fd13, F13⟩ := def_of c 13 "is_name" s_is_name rfl
  obtain ⟨fd14, F14⟩ := def_of c 14 "is_number" s_is_number rfl
  obtain ⟨fd15, F15⟩ := def_of c 15 "is_step" s_is_step rfl
  obtain ⟨fd16, F16⟩ := def_of c 16 "check_rows" s_check_rows rfl
  obtain ⟨fd17, F17⟩ := dmk_of c 17 "Reader" "__init__" "Reader.__init__" s_Reader_init [("inputs", .int 0)] [("inputs", .int 0)] rfl rfl
  obtain ⟨fd18, F18⟩ := def_of c 18 "cells_of" s_cells_of rfl
  obtain ⟨fd19, F19⟩ := def_of c 19 "following" s_following rfl
  obtain ⟨fd20, F20⟩ := def_of c 20 "used_cells" s_used_cells rfl
  obtain ⟨fd21, F21⟩ := def_of c 21 "set_cells" s_set_cells rfl
  obtain ⟨fd22, F22⟩ := def_of c 22 "needs" s_needs rfl
  obtain ⟨fd23, F23⟩ := def_of c 23 "needed" s_needed rfl
  have e := hfa.symm.trans (He.glo_ok X G (c.fact 12 (f := .glo "law") rfl))
  cases e
  have b12 := FunD.bindsA (ps := ["_law_script"]) F12 fun _ _ _ _ _ _ us hl => match us, hl with | [_], _ => rfl
  have T0 := gf_of F0 (He.glo_ok X G (c.fact 0 (f := .glo "_law_box") rfl)) (FunD.bindsN (ps := ["_law_script"]) F0 fun _ _ _ _ _ _ us hl => match us, hl with | [_], _ => rfl)
  have T1 := gf_of F1 (He.glo_ok X G (c.fact 1 (f := .glo "_law_pull") rfl)) (FunD.bindsN (ps := ["_law_box_here", "_law_many"]) F1 fun _ _ _ _ _ _ us hl => match us, hl with | [_, _], _ => rfl)
  have T2 := gf_of F2 (He.glo_ok X G (c.fact 2 (f := .glo "_law_of") rfl)) (FunD.bindsN (ps := ["_law_box_here", "_law_some"]) F2 fun _ _ _ _ _ _ us hl => match us, hl with | [_, _], _ => rfl)
  have T3 := gf_of F3 (He.glo_ok X G (c.fact 3 (f := .glo "_law_words") rfl)) (FunD.bindsN (ps := ["_law_box_here", "_law_many"]) F3 fun _ _ _ _ _ _ us hl => match us, hl with | [_, _], _ => rfl)
  have T4 := gf_of F4 (He.glo_ok X G (c.fact 4 (f := .glo "_law_same") rfl)) (FunD.bindsN (ps := ["_law_found", "_law_due"]) F4 fun _ _ _ _ _ _ us hl => match us, hl with | [_, _], _ => rfl)
  have T5 := gf_of F5 (He.glo_ok X G (c.fact 5 (f := .glo "_law_step") rfl)) (FunD.bindsN (ps := ["_law_box_here", "_law_cells", "_law_words_here", "_law_many"]) F5 fun _ _ _ _ _ _ us hl => match us, hl with | [_, _, _, _], _ => rfl)
  have T6 := gf_of F6 (He.glo_ok X G (c.fact 6 (f := .glo "_law_plan") rfl)) (FunD.bindsN (ps := ["_law_box_here", "_law_words_here", "_law_cap"]) F6 fun _ _ _ _ _ _ us hl => match us, hl with | [_, _, _], _ => rfl)
  have T7 := gf_of F7 (He.glo_ok X G (c.fact 7 (f := .glo "_law_made") rfl)) (FunD.bindsN (ps := ["_law_plan_here"]) F7 fun _ _ _ _ _ _ us hl => match us, hl with | [_], _ => rfl)
  have T8 := gf_of F8 (He.glo_ok X G (c.fact 8 (f := .glo "_law_following") rfl)) (FunD.bindsN (ps := ["_law_rows", "_law_at"]) F8 fun _ _ _ _ _ _ us hl => match us, hl with | [_, _], _ => rfl)
  have T9 := gf_of F9 (He.glo_ok X G (c.fact 9 (f := .glo "_law_used") rfl)) (FunD.bindsN (ps := ["_law_step_here"]) F9 fun _ _ _ _ _ _ us hl => match us, hl with | [_], _ => rfl)
  have T10 := gf_of F10 (He.glo_ok X G (c.fact 10 (f := .glo "_law_sets") rfl)) (FunD.bindsN (ps := ["_law_step_here"]) F10 fun _ _ _ _ _ _ us hl => match us, hl with | [_], _ => rfl)
  have T11 := gf_of F11 (He.glo_ok X G (c.fact 11 (f := .glo "_law_needed") rfl)) (FunD.bindsN (ps := ["_law_rows", "_law_cells"]) F11 fun _ _ _ _ _ _ us hl => match us, hl with | [_, _], _ => rfl)
  have T13 := gf_of F13 (He.glo_ok X G (c.fact 13 (f := .glo "is_name") rfl)) (FunD.bindsN (ps := ["value"]) F13 fun _ _ _ _ _ _ us hl => match us, hl with | [_], _ => rfl)
  have T14 := gf_of F14 (He.glo_ok X G (c.fact 14 (f := .glo "is_number") rfl)) (FunD.bindsN (ps := ["value", "least", "most"]) F14 fun _ _ _ _ _ _ us hl => match us, hl with | [_, _, _], _ => rfl)
  have T15 := gf_of F15 (He.glo_ok X G (c.fact 15 (f := .glo "is_step") rfl)) (FunD.bindsN (ps := ["value", "cells", "rows"]) F15 fun _ _ _ _ _ _ us hl => match us, hl with | [_, _, _], _ => rfl)
  have T16 := gf_of F16 (He.glo_ok X G (c.fact 16 (f := .glo "check_rows") rfl)) (FunD.bindsN (ps := ["cells", "rows"]) F16 fun _ _ _ _ _ _ us hl => match us, hl with | [_, _], _ => rfl)
  have T18 := gf_of F18 (He.glo_ok X G (c.fact 17 (f := .glo "cells_of") rfl)) (FunD.bindsN (ps := ["step"]) F18 fun _ _ _ _ _ _ us hl => match us, hl with | [_], _ => rfl)
  have T19 := gf_of F19 (He.glo_ok X G (c.fact 18 (f := .glo "following") rfl)) (FunD.bindsN (ps := ["reader_rows", "at"]) F19 fun _ _ _ _ _ _ us hl => match us, hl with | [_, _], _ => rfl)
  have T20 := gf_of F20 (He.glo_ok X G (c.fact 19 (f := .glo "used_cells") rfl)) (FunD.bindsN (ps := ["step"]) F20 fun _ _ _ _ _ _ us hl => match us, hl with | [_], _ => rfl)
  have T21 := gf_of F21 (He.glo_ok X G (c.fact 20 (f := .glo "set_cells") rfl)) (FunD.bindsN (ps := ["step"]) F21 fun _ _ _ _ _ _ us hl => match us, hl with | [_], _ => rfl)
  have T22 := gf_of F22 (He.glo_ok X G (c.fact 21 (f := .glo "needs") rfl)) (FunD.bindsN (ps := ["reader_rows", "cells"]) F22 fun _ _ _ _ _ _ us hl => match us, hl with | [_, _], _ => rfl)
  have T23 := gf_of F23 (He.glo_ok X G (c.fact 22 (f := .glo "needed") rfl)) (FunD.bindsN (ps := ["reader"]) F23 fun _ _ _ _ _ _ us hl => match us, hl with | [_], _ => rfl)
  have m_isinstance := He.free_ok X G (c.fact 34 (f := .free "isinstance") rfl)
  have m_str := He.free_ok X G (c.fact 35 (f := .free "str") rfl)
  have m_len := He.free_ok X G (c.fact 36 (f := .free "len") rfl)
  have m_all := He.free_ok X G (c.fact 37 (f := .free "all") rfl)
  have m_int := He.free_ok X G (c.fact 38 (f := .free "int") rfl)
  have m_bool := He.free_ok X G (c.fact 39 (f := .free "bool") rfl)
  have m_list := He.free_ok X G (c.fact 40 (f := .free "list") rfl)
  have m_tuple := He.free_ok X G (c.fact 41 (f := .free "tuple") rfl)
  have m_zip := He.free_ok X G (c.fact 42 (f := .free "zip") rfl)
  have m_abs := He.free_ok X G (c.fact 43 (f := .free "abs") rfl)
  have m_super := He.free_ok X G (c.fact 44 (f := .free "super") rfl)
  have m_range := He.free_ok X G (c.fact 45 (f := .free "range") rfl)
  have m_enumerate := He.free_ok X G (c.fact 46 (f := .free "enumerate") rfl)
  have m_dict := He.free_ok X G (c.fact 47 (f := .free "dict") rfl)
  have m_sorted := He.free_ok X G (c.fact 48 (f := .free "sorted") rfl)
  obtain ⟨t_LONGEST_NAME, M_LONGEST_NAME⟩ := He.int_ok X G (c.fact 49 (f := .int "LONGEST_NAME" 6) rfl)
  obtain ⟨t_MOST_CELLS, M_MOST_CELLS⟩ := He.int_ok X G (c.fact 50 (f := .int "MOST_CELLS" 300) rfl)
  obtain ⟨t_MOST_ROWS, M_MOST_ROWS⟩ := He.int_ok X G (c.fact 51 (f := .int "MOST_ROWS" 10000) rfl)
  obtain ⟨t_MOST_RANGE, M_MOST_RANGE⟩ := He.int_ok X G (c.fact 52 (f := .int "MOST_RANGE" 10000) rfl)
  obtain ⟨t_LETTERS, M_LETTERS⟩ := He.str_ok X G (c.fact 53 (f := .str "LETTERS" "abcdefghijklmnopqrstuvwxyz") rfl)
  have M_OnceError := He.glo_ok X G (c.fact 23 (f := .glo "OnceError") rfl)
  have M_InvalidNumber := He.glo_ok X G (c.fact 24 (f := .glo "InvalidNumber") rfl)
  have M_InvalidText := He.glo_ok X G (c.fact 25 (f := .glo "InvalidText") rfl)
  have M_TooMany := He.glo_ok X G (c.fact 26 (f := .glo "TooMany") rfl)
  have M_InvalidCell := He.glo_ok X G (c.fact 27 (f := .glo "InvalidCell") rfl)
  have M_InvalidStep := He.glo_ok X G (c.fact 28 (f := .glo "InvalidStep") rfl)
  have M_Reader := He.glo_ok X G (c.fact 29 (f := .glo "Reader") rfl)
  have M_FORMS := He.glo_ok X G (c.fact 30 (f := .glo "FORMS") rfl)
  have M_PLACES := He.glo_ok X G (c.fact 31 (f := .glo "PLACES") rfl)
  have M_LAST := He.glo_ok X G (c.fact 32 (f := .glo "LAST") rfl)
  have M_TESTS := He.glo_ok X G (c.fact 33 (f := .glo "TESTS") rfl)
  have CL_Reader := He.cls_ok (c.fact 54 (f := .cls "Reader") rfl)
  have MK_Reader := He.mkr_ok (c.fact 55 (f := .mkr "Reader") rfl)
  have NA_Reader_cells := He.noat_ok (c.fact 56 (f := .noat "Reader" "cells") rfl)
  have NA_Reader_rows := He.noat_ok (c.fact 57 (f := .noat "Reader" "rows") rfl)
  have NA_Reader_inputs := He.noat_ok (c.fact 58 (f := .noat "Reader" "inputs") rfl)
  have TO : TopO Pr mg := ⟨m_super, by decide +kernel⟩
  refine ⟨fd12, tf.map (He.cT K), spLaw K [], fun p hp => ?_, fun p hp => ?_, fun p hp => ?_, fun s v => b12 s [v] rfl, fun H a ns hl _ hT hS => ⟨a, ns, rfl, hS, fun p hp => ?_, fun _ => rfl⟩, fun base KB GB TBs => ?_⟩
  · obtain ⟨z, hz, rfl⟩ := List.mem_map.mp hp
    exact c0.empty z hz
  · obtain ⟨z, hz, rfl⟩ := List.mem_map.mp hp
    exact c0.out z hz
  · obtain ⟨z, hz, rfl⟩ := List.mem_map.mp hp
    exact PySem.W.codeHd_of_K X (c0.hd z hz)
  · exact absurd hp List.not_mem_nil
  obtain ⟨mvA, KB_inputs⟩ := FunD.kbinds0 (ps := psR) F17 3 ["inputs"] [] (fun us _ ws => us ++ ws) (by decide) (fun q hq => by cases hq) (fun r1 _ r3 => r1.append r3) fun D doc pm an cdv ct us mv ws h1 h2 h3 => match us, mv, ws, h1, h2, h3 with | [_, _, _], [], [_], _, _, _ => rfl
  obtain ⟨mvB, KB_no⟩ := FunD.kbinds0 (ps := psR) F17 3 [] [("inputs", .int 0)] (fun us mv _ => us ++ mv) (by decide) (fun q hq => hq) (fun r1 r2 _ => r1.append r2) fun D doc pm an cdv ct us mv ws h1 h2 h3 => match us, mv, ws, h1, h2, h3 with | [_, _, _], [_], [], _, _, _ => ⟨_, _, _, _, _, _, rfl, rfl, rfl⟩
  have G_box := ok_box (P := Pr) (w := w) (base := base) (fun_of F0) m_int m_list
  have G_pull := ok_pull (P := Pr) (w := w) (base := base) (fun_of F1) m_int m_len m_abs
  have G_of := ok_of (fun_of F2) G_pull T1 m_len
  have G_same := ok_same (P := Pr) (w := w) (base := base) (fun_of F4) T4 m_isinstance m_list m_tuple m_bool m_int m_str m_len m_all m_zip 3
  have G_is_name := ok_is_name (P := Pr) (w := w) (base := base) (fun_of F13) m_isinstance m_str m_len m_all M_LETTERS M_LONGEST_NAME
  have G_is_number := ok_is_number (P := Pr) (w := w) (base := base) (fun_of F14) m_isinstance m_bool m_int
  have G_is_step := ok_is_step (fun_of F15) G_is_name T13 G_is_number T14 m_isinstance m_str m_tuple m_len m_zip M_FORMS TK_FORMS
  have G_check_rows := ok_check_rows (fun_of F16) G_is_step T15 m_len m_enumerate M_PLACES TK_PLACES M_LAST ex_LAST (er_InvalidStep TO hex hin) M_InvalidStep
  have G_init := ok_Reader_init (AA := He.ga K) (fun_of F17) G_is_number T14 G_check_rows T16 m_len m_enumerate m_range m_tuple M_MOST_CELLS M_MOST_ROWS M_MOST_RANGE
    (er_TooMany TO hex hin) M_TooMany (er_InvalidCell TO hex hin) M_InvalidCell (er_InvalidNumber TO hex hin) M_InvalidNumber CL_Reader NA_Reader_cells NA_Reader_rows NA_Reader_inputs
  have G_words := ok_words (P := Pr) (w := w) (base := base) (fun_of F3) G_pull T1 G_of T2 m_len m_int m_range
  have G_step := ok_step (P := Pr) (w := w) (base := base) (fun_of F5) G_pull T1 G_of T2
  have G_plan := ok_plan (P := Pr) (w := w) (base := base) (fun_of F6) G_pull T1 G_of T2 G_step T5 m_len m_range
  have G_made := ok_made (AA := He.ga K) (fun_of F7) MK_Reader G_init M_Reader KB_inputs m_list
  have G_cells_of := ok_cells_of (P := Pr) (base := base) (fun_of F18) m_zip M_FORMS TK_FORMS
  have G_following := ok_following (P := Pr) (w := w) (base := base) (fun_of F19) M_TESTS ex_TESTS
  have G_used_cells := ok_used_cells (fun_of F20) M_TESTS ex_TESTS G_cells_of T18
  have G_set_cells := ok_set_cells (P := Pr) (w := w) (mg := mg) (base := base) (fun_of F21)
  have G_needs := ok_needs (fun_of F22) G_following T19 G_used_cells T20 G_set_cells T21 m_range m_len m_zip
  have G_needed := ok_needed (fun_of F23) G_needs T22 CL_Reader NA_Reader_rows NA_Reader_cells m_enumerate m_len
  have G_lfol := ok_lfol (P := Pr) (w := w) (mg := mg) (base := base) (fun_of F8)
  have G_lused := ok_lused (P := Pr) (w := w) (base := base) (fun_of F9) m_list
  have G_lsets := ok_lsets (P := Pr) (w := w) (mg := mg) (base := base) (fun_of F10)
  have G_lneed := ok_lneed (fun_of F11) G_lfol T8 G_lused T9 G_lsets T10 m_range m_len m_dict m_sorted
  exact ok_law (fun_of F12) G_box T0 G_words T3 G_plan T6 G_made T7 G_same T4 G_lneed T11 G_needed T23 m_len m_range
end LW
open PySem PySem.W PySem.Calls PyProof.Rows
theorem PySem.Challenge.cw_oncethrough_k44_needed_cells_holds : PySem.Challenge.rw_oncethrough_k44_needed_cells.Holds := by
  w_on; o_law
  refine HandSHeadRun.head_any (r := LW.RwL) (q := view LW.RwL.prog [50]) (H := LW.hk) (ob := LW.ob) (M := 10000) (loose := LW.loose) (d := HandSHeadRun.topDef LW.RwL.prog 50) (kwd := []) LW.ob_eq
    (by kernel_rfl) (fun s => by kernel_rfl) LW.run (by kernel_rfl) (by kernel_rfl) (by kernel_rfl) (by rfl) (by first | assumption | decide +kernel) (by decide +kernel) ⟨rfl, rfl, rfl, rfl, rfl, by decide +kernel⟩ ?hw ?hc
  case hw => w_witness2
  case hc =>
    refine LamX.walk_ofTsE (l := PySem.Challenge.rw_oncethrough_k44_needed_cells) (n := 63) (k := 12) (x := "_law_script") (CX := fun _ => L2.CX0) rfl (by decide) (by kernel_rfl) ⟨rfl, by decide, by decide⟩ ?F (fun _ _ _ _ _ z => z)
    intro w mg fa h Y G hmg0
    obtain ⟨K, KX, c⟩ := Y
    have hmg : mg ("law" : PySem.Str) = some (.ref fa) := by
      have e : (HandSHeadRun.topDef LW.RwL.prog 50).name = ("law" : PySem.Str) := by kernel_rfl
      rw [← e]
      exact hmg0
    exact ⟨K, KX, LW.facts (w := w) KX G hmg c⟩
#print axioms PySem.Challenge.cw_oncethrough_k44_needed_cells_holds
