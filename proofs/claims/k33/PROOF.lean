import PyProof.Rows.All
import Wide.All
import OpenK.AllK
import Wide.FinOn
import HandS.Exc
import HandS.ExcOwn
import HandS.Ends
import KE.KExcPX
import KE.KExcInit
import KE.KExcMake
import KE.KExcSuper
import KE.KSuper
import HandS.TupSets
import KE.KeyNested
import HandS.ForMost
import HandS.IsInst
import HandS.Lambda
import KE.KDflt
import HandS.Flow
import HandS.CallSlots
import HandS.Deep
import PyProof.StrBlock2
import KE.GoesMore
import KE.GoesZip
import KE.GoesEnum
import HandS.MakeKwOnly
import HandS.ClsMeth
import HandS.ExcIs
import HandS.ExcField
import HandS.HeadHook4
import HandS.HeadNt
import PySem.Challenge.RW_oncethrough_k33_wrong_reader_pages
import HandS.Style
import HandS.ExcBuiltin
import HandS.Conv
import PyProof.ByEval2
import KE.KStateDown
import Lean
import HandS.More
import HandS.Words
import HandS.WordsExc
import HandS.Defaults
import HandS.Head0
import HandS.Head1
import HandS.Head2
import HandS.HeadEnd
import HandS.HeadHook1
import HandS.HeadHook2
import HandS.Codes
import KE.KTryMore
import HandS.HotCalls
import HandS.Star
import HandS.OwnEq
import HandS.Strs
import OpenK.KMeth
import HandS.Text
import KE.KListMore
import HandS.DictComp
import HandS.SortOrd
import OpenK.KWalk
import HandS.Iter
import PyProof.DictUpdate
import PyProof.MeetsSeq2
import PyProof.DictDisplay
import KE.KEqDict
import HandS.FStr
import HandS.RaiseMore
import OpenK.KOps
import PyProof.InstEq
import KE.KUnpackStar
import HandS.RaiseFrom
import HandS.SuiteRaise
import KE.GoesRaise
import HandS.HeadWalk
set_option Elab.async false
set_option linter.all false
set_option maxRecDepth 100000
set_option maxHeartbeats 4000000
namespace PySem
namespace XO
open Builtin Builtin.ObjectAttr PySem.W PySem.Calls PyProof.Rows PySem.HandSPX
section
variable {prog : Program} {w : World} {A : Around} {E : Value → Shared → Prop} {R : Result → Shared → Prop} {hp : Heap} {g : Array GenState} {d : Drawn} {t : Nat} {os : OsState} {B : String} {bmB : List Value}
/-- self.name = v, no dict yet -/
theorem osa_new {K : W.Frag} {name : Str} {tk : Tok} {v : Value} {x C : Addr} {fv : Array Value} {cd : ClassData} (ST : StoreFacts B bmB "object.__setattr__" "object")
    (X : K.In hp) (hx : hp.get? x = some { cls := .ref C, data := .fields fv }) (hcd : W.clsIn K C = some cd) (hm : excTail bmB cd.mro = true) (ne : cd.mro.isEmpty = false) (hh : cd.hasDict = true) (ha : W.findIn K (.ref C) name = some none)
    (hq : ∀ h' tk' dx, (∀ b o, b ≠ x → hp.get? b = some o → h'.get? b = some o) → hp.objs.size ≤ dx → dx ≠ x → h'.get? x = some { cls := .ref C, dict := some dx, data := .fields fv } →
      h'.Ns1 dx (fun y => if y = name then some v else none) → R (.ok (.ret .none)) ⟨h', g, d, tk', os⟩) :
    codeAny (model prog w) A (.call (.builtin "object.__setattr__") ⟨[.ref x, .str name tk, v], []⟩) R ⟨hp, g, d, t, os⟩ := by
  have I : W.InstAt hp x { cls := .ref C, data := .fields fv } C none := ⟨hx, rfl, rfl, trivial⟩
  have SF := F.store_object
  have hob : cd.mro.contains (.type "object") = true := (excTail_contains "object" _ hm).trans ST.hasOwner
  have hxs : x ≠ hp.objs.size := Nat.ne_of_lt (Heap.lt_size hx)
  have sub : W.Looks (model prog w) hp (isInstance (.ref x) (.type "object")) true := I.type.andThen (W.looks_mroIn X (by unfold W.mroIn; rw [hcd, Option.bind_some, if_neg (by rw [ne]; decide), hob]))
  refine codeAny_call_builtin SF.slot.plain SF.entry (@W.check_slot (model prog w) _ _ ⟨hp, g, d, t, os⟩ "object.__setattr__" "object" "__setattr__" (.ref x) [.str name tk, v] [] _ SF.kind SF.split sub (SF.args (.ref x) (.str name tk) v) ?_)
  have hmr : W.Looks (model prog w) hp (mroOf (.ref C)) cd.mro := (W.looks_clsIn X hcd).andThen .now
  have L3 : W.Looks (model prog w) hp (storeTaker? none) none := .now
  have hcls : W.Looks (model prog w) hp (classData C) cd := W.looks_clsIn X hcd
  rw [W.osa_eq, refuse_eq]
  refine wpAny_bind (wpAny_bind (I.type.at (wpAny_bind (hmr.at ?_))))
  rw [excTail_pass _ (ST.passes _) _ hm]
  refine wpAny_pure (wpAny_bind (I.type.at (wpAny_bind ((W.looks_findIn X ha).at (wpAny_bind (L3.at ?_))))))
  show wpAny _ _ (storeInOwnDict (.ref x) (.ref C) (.str name tk) name v false) _ _ _
  obtain ⟨nm, bs, mro, ns, qn, hd, sn, sb, ab, col, del⟩ := cd
  dsimp only at hh
  subst hh
  unfold storeInOwnDict ownDictForStores
  repeat (first | with_reducible refine store_in_new ?_ ?_ | with_reducible refine wpAny_loadPart_at hx ?_ | with_reducible refine hcls.at ?_ | wp_step)
  · exact ⟨_, #[], _, (Heap.get?_update_ne _ _ _ _ hxs.symm).trans (Heap.get?_push_at rfl rfl), rfl, fun e he => absurd he (by simp), fun _ => rfl⟩
  · intro h' tk' hn' hs
    have hx₁ : (hp.push { cls := .type "dict", data := .dict #[] }).get? x = some { cls := .ref C, data := .fields fv } := Heap.get?_push_of_some _ hx
    refine hq h' tk' hp.objs.size (fun b o hb ho => ?_) (Nat.le_refl _) hxs.symm ?_ hn'
    · exact (hs.2 b (Nat.ne_of_lt (Heap.lt_size ho))).trans ((Heap.get?_update_ne _ _ _ _ hb).trans (Heap.get?_push_of_some _ ho))
    · exact (hs.2 x hxs).trans (Heap.get?_update_self _ hx₁ rfl)
theorem store_old {M : Model} {dx : Addr} {name : Str} {tk : Tok} {v : Value} {m0 : Str → Option Value} {ns : List Str} {Q : Fin → Shared → Prop} (hn : hp.Ns1 dx m0) (hw : Within m0 ns) (hz : ns.length ≤ 1000)
    (hq : ∀ h' tk', h'.Ns1 dx (fun y => if y = name then some v else m0 y) → Heap.SameBut dx hp h' → Q (.done (.ret .none)) ⟨h', g, d, tk', os⟩) :
    wpAny M A (storeInDict dx (.str name tk) name v) Q E ⟨hp, g, d, t, os⟩ := by
  unfold storeInDict newKeyGuard
  refine wpAny_bind (wpAny_pure (wpAny_bind (wpAny_nsSet1 hn fun h' hn' hs => ?_)))
  obtain ⟨oD, esD, epD, hoD, hdD, hcD⟩ := hn'.count (Within.cons name v hw)
  refine wpAny_bind (wpAny_lookBehind hoD (by rw [hdD]; exact pastItsLine_dict (Nat.le_trans hcD (by rw [List.length_cons, sizeLine_eq]; omega))) ?_)
  wp_walk
  exact hq h' _ hn' hs
/-- a further field -/
theorem osa_more {K : W.Frag} {name : Str} {tk : Tok} {v : Value} {x C dx : Addr} {fv : Array Value} {cd : ClassData} {m0 : Str → Option Value} {nl : List Str} (ST : StoreFacts B bmB "object.__setattr__" "object")
    (X : K.In hp) (hx : hp.get? x = some { cls := .ref C, dict := some dx, data := .fields fv }) (hns : hp.Ns1 dx m0) (hw : Within m0 nl) (hz : nl.length ≤ 1000) (hcd : W.clsIn K C = some cd) (hm : excTail bmB cd.mro = true) (ne : cd.mro.isEmpty = false) (hh : cd.hasDict = true)
    (ha : W.findIn K (.ref C) name = some none)
    (hq : ∀ h' tk', (∀ b o, b ≠ dx → hp.get? b = some o → h'.get? b = some o) → h'.Ns1 dx (fun y => if y = name then some v else m0 y) → R (.ok (.ret .none)) ⟨h', g, d, tk', os⟩) :
    codeAny (model prog w) A (.call (.builtin "object.__setattr__") ⟨[.ref x, .str name tk, v], []⟩) R ⟨hp, g, d, t, os⟩ := by
  obtain ⟨oD, esD, epD, hoD, hdD, _⟩ := hns.count hw
  have I : W.InstAt hp x { cls := .ref C, dict := some dx, data := .fields fv } C (some oD) := ⟨hx, rfl, rfl, hoD⟩
  have SF := F.store_object
  have hob : cd.mro.contains (.type "object") = true := (excTail_contains "object" _ hm).trans ST.hasOwner
  have sub : W.Looks (model prog w) hp (isInstance (.ref x) (.type "object")) true := I.type.andThen (W.looks_mroIn X (by unfold W.mroIn; rw [hcd, Option.bind_some, if_neg (by rw [ne]; decide), hob]))
  refine codeAny_call_builtin SF.slot.plain SF.entry (@W.check_slot (model prog w) _ _ ⟨hp, g, d, t, os⟩ "object.__setattr__" "object" "__setattr__" (.ref x) [.str name tk, v] [] _ SF.kind SF.split sub (SF.args (.ref x) (.str name tk) v) ?_)
  have hmr : W.Looks (model prog w) hp (mroOf (.ref C)) cd.mro := (W.looks_clsIn X hcd).andThen .now
  have L3 : W.Looks (model prog w) hp (storeTaker? none) none := .now
  have hcls : W.Looks (model prog w) hp (classData C) cd := W.looks_clsIn X hcd
  rw [W.osa_eq, refuse_eq]
  refine wpAny_bind (wpAny_bind (I.type.at (wpAny_bind (hmr.at ?_))))
  rw [excTail_pass _ (ST.passes _) _ hm]
  refine wpAny_pure (wpAny_bind (I.type.at (wpAny_bind ((W.looks_findIn X ha).at (wpAny_bind (L3.at ?_))))))
  show wpAny _ _ (storeInOwnDict (.ref x) (.ref C) (.str name tk) name v false) _ _ _
  obtain ⟨nm, bs, mro, ns, qn, hd, sn, sb, ab, col, del⟩ := cd
  dsimp only at hh
  subst hh
  unfold storeInOwnDict ownDictForStores
  repeat (first | with_reducible refine store_old hns hw hz ?_ | with_reducible refine wpAny_loadPart_at hx ?_ | with_reducible refine hcls.at ?_ | wp_step)
  intro h' tk' hn' hs
  exact hq h' tk' (fun b o hb ho => (hs.2 b hb).trans ho) hn'
/-- the bound __init__ of a built-in error, called -/
theorem call_mw {K : W.Frag} {i newId : String} {u x C t0 : Addr} {dv : Option Addr} {c2 : Value} {rest : List Value} {Q : Value → Shared → Prop} (X : K.In hp) (FB : ExcBaseFacts B newId i bmB) (q : excInitIn K C bmB newId = true) (hu : hp.get? u = some (kxs_mw i x)) (he : hp.get? x = some (excObj C t0 dv c2)) (hz : rest.length ≤ sizeLine)
    (fin : ∀ h', (∀ b o, b ≠ x → hp.get? b = some o → h'.get? b = some o) → h'.get? x = some (excObj C hp.objs.size dv c2) → Q .none ⟨h', g, d, t, os⟩) :
    wpAny (model prog w) A (call (.ref u) rest) Q E ⟨hp, g, d, t, os⟩ := by
  obtain ⟨nm, N', qn, bs, bm, hdct, sn, sub, ab, col, dd, k0, k1, k2, k3, k5, hC, hT⟩ := excInit_of X q
  refine wpAny_call (codeAny_of_tree ?_)
  show wpAny _ A.in1 (callAny (.ref u) ⟨rest, []⟩) _ _ _
  simp only [callAny]
  refine wpAny_bind (wpAny_load hu ?_)
  simp only [kxs_mw, show (Value.type "method-wrapper" == Value.type "method" || Value.type "method-wrapper" == Value.type "builtin_function_or_method" || Value.type "method-wrapper" == Value.type "method-wrapper") = true by decide, if_true]
  refine KFB.if_so (by decide) ?_
  refine wpAny_bind (check_bound_init FB.toExcCallFacts hC he rfl ?_)
  refine wpAny_bind (wpAny_pure (wpAny_pure ?_))
  refine ⟨plainId_quiet FB.init.plain _, codeAny_builtin FB.initEntry ?_⟩
  exact exc_init_tree (cls := .ref C) (t0 := t0) (dv := dv) (c2 := c2) (c3 := .none) (b4 := .bool false) he hz fun h' k e _ => fin h' k e
end
end XO
end PySem
set_option Elab.async false
set_option linter.all false
set_option maxRecDepth 100000
set_option maxHeartbeats 4000000
namespace PySem
namespace XO
open PySem.W PySem.Calls PyProof.Rows PySem.HandSPX L2
/-- what is said of a def __init__ of the class at D: its closure holds D -/
structure Ini (prog : Program) (K : Frag) (D f : Addr) (qual : Str) (ps : Arguments) (body : List Stmt) (scope : Scope) (cc cda : Addr) (fd : FuncData) : Prop where
  fn : ∃ (oc : Value) (od : Option Addr) (doc pm : Value) (an : Option Addr) (ct : Value) (osl : Array (Option Value)), fd = ksFn "__init__" qual ps body scope .none .none doc pm an (.ref cda) ct cc ∧ K.lookup f = some ⟨oc, od, .func fd, osl⟩
  cd : codeIn K (.ref cda) qual = true
  cell : ∃ cl cld csl, K.lookup cc = some ⟨cl, cld, .cell (some (.ref D)), csl⟩
  code : ∃ ccl cdd vs ccs file tf, K.lookup cda = some ⟨ccl, cdd, .fields vs, ccs⟩ ∧ vs[2]? = some (.str file tf) ∧ ((prog.main.file : Str) == file) = true
  self : ∃ ar, (ps.posonlyargs ++ ps.args).head? = some ar ∧ ar.arg = ("self" : Str)
  ks : scope.names.lookup ("super" : Str) = some .globalImplicit
  kc : scope.names.lookup ("__class__" : Str) = some .free
  ka : scope.names.lookup ("self" : Str) = some .local
  kd : scope.kind = .function
  nc : ∀ x ∈ scope.names, x.2 ≠ .cell
  co : scope.isCoroutine = false
  ge : scope.isGenerator = false
  ia : ∀ L, interactive (ksEnv qual scope L f (.ref cda) cc) = false
section
variable {prog : Program} {w : World} {A : Around} {E : Value → Shared → Prop} {K : Frag} {mg : Str → Option Value} {base : Heap} {hh : Heap} {g : Array GenState} {d : Drawn} {t : Nat} {os : OsState}
variable {D C f cc cda x L : Addr} {qual : Str} {ps : Arguments} {body : List Stmt} {scope : Scope} {fd : FuncData} {m : Str → Option Value}
/-- super() -/
theorem sup_node (T : Ini prog K D f qual ps body scope cc cda fd) (Md : Mod K mg base) (bk : ∀ b o, base.get? b = some o → hh.get? b = some o) (hms : mg "super" = none) (htop : (prog.main.scope.names.lookup ("super" : Str)).isSome = false)
    {cdD : ClassData} {ox : Obj} {od : Option Obj} (hD : clsIn K D = some cdD) (hsub : mroIn K C (.ref D) = some true) (hn : hh.Ns L m) (hv : m "self" = some (.ref x)) (I : InstAt hh x ox C od) {p0 p1 : Pos} {whole : Sem Value} {Q : Value → Shared → Prop} {bd : List Stmt}
    (h : ∀ h', h'.get? hh.objs.size = some (ks_superObj D x C) → (∀ b o, hh.get? b = some o → h'.get? b = some o) → Q (.ref hh.objs.size) ⟨h', g, d, t, os⟩) :
    _root_.PySem.wpAt (model prog w) A (.func bd (ksEnv qual scope L f (.ref cda) cc)) (attributeBase (.Call (.Name "super" p0) [] [] p1) "__init__" (ksEnv qual scope L f (.ref cda) cc) whole) Q E ⟨hh, g, d, t, os⟩ := by
  have X : K.In hh := Md.kin.keeps bk
  obtain ⟨oc, odf, doc, pm, an, ct, osl, rfl, hf⟩ := T.fn
  obtain ⟨cl, cld, csl, hcell⟩ := T.cell
  obtain ⟨ccl, cdd, vs, ccs, file, tf, hcode, hvs, hfile⟩ := T.code
  obtain ⟨ar, har, ear⟩ := T.self
  obtain ⟨mb, hb1, hb2⟩ := Md.blt
  obtain ⟨oD, hD1, hD2⟩ : ∃ oD, hh.get? D = some oD ∧ oD.data = .cls cdD := by
    unfold clsIn at hD
    split at hD
    · rename_i c d cd' sl ho
      cases hD
      exact ⟨_, X _ _ ho, rfl⟩
    · cases hD
  refine ks_wpAt_super_base (env := ksEnv qual scope L f (.ref cda) cc) T.ks T.kc rfl rfl (X _ _ hf) rfl har rfl (X _ _ hcode) rfl hvs hfile htop ?_
  refine ks_loadName_global T.kd T.ks (loadGlobal_builtin (env := ksEnv qual scope L f (.ref cda) cc) (Md.glob.keeps bk) hms (hb1.keeps bk) ((hb2 _ (by decide)).trans (by decide +kernel)) ⟨rfl, ?_⟩)
  refine wpAny_loadName_free T.kd T.kc rfl ⟨_, X _ _ hcell, rfl⟩ ?_
  rw [ear]
  refine wpAny_loadName_local T.kd T.ka hn hv ?_
  refine ks_wpAny_isType_cls hD1 hD2 ⟨rfl, ?_⟩
  refine ks_wpAny_call_super hD1 hD2 I.at_ I.cls (fun c e => ?_) (looks_mroIn X hsub) (fun h' e k => h h' e k)
  have := I.no
  unfold notCls at this
  rw [e] at this
  exact Bool.noConfusion this
/-- an argument: told by the frame's names alone -/
def Sim (prog : Program) (w : World) (A : Around) (env : Env) (L : Addr) (m : Str → Option Value) (e : Expr) (P : Value → Prop) : Prop := ∀ (s : Shared) (Q : Value → Shared → Prop) (E : Value → Shared → Prop), s.heap.Ns L m → (∀ v tk, P v → Q v { s with toks := tk }) → wpAny (model prog w) A (eval e env) Q E s
theorem sim_name {name : Str} {a : Addr} {cd : Value} {cl : List (Str × Addr)} {y : Str} {v : Value} {pos : Pos} (hk : scope.kind = .function) (hl : scope.names.lookup y = some .local) (hv : m y = some v) (hd : (y == ("__debug__" : Str)) = false) :
    Sim prog w A (envX name scope L a cd cl) L m (.Name y pos) (· = v) := fun s Q E hn h => wpAny_Name (wpAny_loadName_local hk hl hn hv (h v s.toks rfl)) hd
theorem sim_str {env : Env} {y : Str} {k : Nat} {pos : Pos} : Sim prog w A env L m (.Constant (.str y) k pos) (fun v => ∃ t, v = .str y t) := fun s Q E _ h => wpAny_Constant_str (h _ _ ⟨_, rfl⟩)
/-- super().__init__(e), the one of a built-in error -/
theorem sup_mw {B i newId : String} {bmB : List Value} (KF : KxsFacts B i) (FB : ExcBaseFacts B newId i bmB) (qI : excInitIn K C bmB newId = true) (hno : nsIn K cStatics "thirdparty.any" = some none)
    (hm : ks_superIn K C D "__init__" = some (some (.builtin i))) (hB : subIn K (.ref C) (.type B) = some true)
    (T : Ini prog K D f qual ps body scope cc cda fd) (Md : Mod K mg base) (bk : ∀ b o, base.get? b = some o → hh.get? b = some o) (hms : mg "super" = none) (htop : (prog.main.scope.names.lookup ("super" : Str)).isSome = false)
    {cdD : ClassData} {t0 : Addr} (hD : clsIn K D = some cdD) (hsub : mroIn K C (.ref D) = some true) (hn : hh.Ns L m) (hv : m "self" = some (.ref x)) (hx : hh.get? x = some (excObj C t0 none .none)) {p0 p1 p2 p3 : Pos} {e : Expr} {P : Value → Prop} {Q : Value → Shared → Prop} {bd : List Stmt} {pl : Sem Bool}
    (hxb : base.get? x = none) (hxL : L ≠ x) (he : Sim prog w A (ksEnv qual scope L f (.ref cda) cc) L m e P) (hse : starEach [e] (ksEnv qual scope L f (.ref cda) cc) = (false, eval e (ksEnv qual scope L f (.ref cda) cc)) :: starEach [] (ksEnv qual scope L f (.ref cda) cc))
    (hev : eval (.Call (.Attribute (.Call (.Name "super" p0) [] [] p1) "__init__" p2) [e] [] p3) (ksEnv qual scope L f (.ref cda) cc) = (do
      let ov ← attributeBase (.Call (.Name "super" p0) [] [] p1) "__init__" (ksEnv qual scope L f (.ref cda) cc) (eval (.Call (.Name "super" p0) [] [] p1) (ksEnv qual scope L f (.ref cda) cc))
      standAt p2.atName
      let (f2, first) ← holding [ov] (getMethod ov "__init__" pl)
      callWith p3 f2 first (backTo p3 (starEach [e] (ksEnv qual scope L f (.ref cda) cc))) []))
    (h : ∀ h' tk t1, (∀ b o, b ≠ x → hh.get? b = some o → h'.get? b = some o) → h'.get? x = some (excObj C t1 none .none) → Q .none ⟨h', g, d, tk, os⟩) :
    _root_.PySem.wpAt (model prog w) A (.func bd (ksEnv qual scope L f (.ref cda) cc)) (eval (.Call (.Attribute (.Call (.Name "super" p0) [] [] p1) "__init__" p2) [e] [] p3) (ksEnv qual scope L f (.ref cda) cc)) Q E ⟨hh, g, d, t, os⟩ := by
  have I : InstAt hh x (excObj C t0 none .none) C none := ⟨hx, rfl, rfl, trivial⟩
  refine ks_wpAt_MethodCall ?_ hev
  refine sup_node T Md bk hms htop hD hsub hn hv I fun h1 e1 k1 => ?_
  have X1 : K.In h1 := (Md.kin.keeps bk).keeps k1
  have I1 : InstAt h1 x (excObj C t0 none .none) C none := ⟨k1 _ _ hx, rfl, rfl, trivial⟩
  cases hc : clsIn K C with
  | none => unfold ks_superIn at hm; rw [hc] at hm; cases hm
  | some cd =>
    unfold ks_superIn at hm
    rw [hc] at hm
    refine kxs_getMethod KF e1 (looks_opaque X1 hno) (l₀ := cd.mro) (fun A Q E s k q => wpAny_bind ((looks_clsIn X1 hc) A _ E s k (wpAny_pure q))) rfl X1 hm (I1.type.andThen (looks_subIn X1 hB)) (ks_ne X1 I1 hc) rfl ?_
    have k2 : ∀ b o, h1.get? b = some o → (h1.push (kxs_mw i x)).get? b = some o := fun b o z => Heap.get?_push_of_some _ z
    have hu : (h1.push (kxs_mw i x)).get? h1.objs.size = some (kxs_mw i x) := Heap.get?_push_at rfl rfl
    rw [hse]
    refine kxs_callWith (i := i) (x := x) rfl (evalArgs_plain (spliced_cons (he _ _ _ ((hn.keeps k1).keeps k2) fun v tk pv => ?_)))
    refine spliced_nil ⟨hu, ?_⟩
    refine call_mw ((X1.keeps k2)) FB qI hu (k2 _ _ (k1 _ _ hx)) (by rw [sizeLine_eq]; exact (by decide : 1 ≤ 16777216)) fun h' k3 e3 => ?_
    exact h h' _ _ (fun b o hb z => k3 b o hb (k2 _ _ (k1 _ _ z))) e3
end
end XO
end PySem
set_option Elab.async false
set_option linter.all false
set_option maxRecDepth 100000
set_option maxHeartbeats 4000000
namespace PySem
namespace XO
open PySem.W PySem.Calls PyProof.Rows PySem.HandSPX L2
/-- what is said of an error class -/
structure ExC (K : Frag) (C : Addr) (B newId i : String) (bmB : List Value) : Prop where
  kf : KxsFacts B i
  fb : ExcBaseFacts B newId i bmB
  st : StoreFacts B bmB "object.__setattr__" "object"
  qI : excInitIn K C bmB newId = true
  cd : ∃ cd, clsIn K C = some cd ∧ excTail bmB cd.mro = true ∧ cd.mro.isEmpty = false ∧ cd.hasDict = true
  sa : findIn K (.ref C) "__setattr__" = some (some (.builtin "object.__setattr__"))
  sB : subIn K (.ref C) (.type B) = some true
  no : nsIn K cStatics "thirdparty.any" = some none
abbrev supC (p0 p1 p2 p3 : Pos) (e : Expr) : Expr := .Call (.Attribute (.Call (.Name "super" p0) [] [] p1) "__init__" p2) [e] [] p3
abbrev setS (f : Str) (q0 q1 q2 : Pos) (e : Expr) : Stmt := .Assign [.Attribute (.Name "self" q0) f q1] e q2
abbrev exq (C t1 : Addr) (d : Option Addr) : Obj := { cls := .ref C, dict := d, data := .fields #[.ref t1, .none, .none, .none, .bool false, .none] }
section
variable {prog : Program} {w : World} {A : Around} {E : Value → Shared → Prop} {K : Frag} {mg : Str → Option Value} {base : Heap} {s : Shared} {R : Result → Shared → Prop}
variable {D C f cc cda x L : Addr} {qual : Str} {ps : Arguments} {body : List Stmt} {scope : Scope} {fd : FuncData} {m : Str → Option Value} {B newId i : String} {bmB : List Value}
/-- the frame of an __init__ -/
theorem init_frame (T : Ini prog K D f qual ps body scope cc cda fd) (X : K.In s.heap) (hlim : s.heap.NoLimit) (hroom : A.depth < recursionLimit) {args : Args} {binds : List (Str × Value)} (hbind : BindsTo s fd args binds) (hloc : ∀ y ∈ binds, scope.names.lookup y.1 = some .local)
    (h : ∀ h₀, h₀.Ns s.heap.objs.size (fun y => binds.reverse.lookup y) → (∀ b o, s.heap.get? b = some o → h₀.get? b = some o) →
      _root_.PySem.wpAt (model prog w) (A.deeper (ksEnv qual scope s.heap.objs.size f (.ref cda) cc)) (.func body (ksEnv qual scope s.heap.objs.size f (.ref cda) cc)) (execs body (ksEnv qual scope s.heap.objs.size f (.ref cda) cc)) (fun fl s' => R (.ok (.ret (match fl with | .ret v => v | _ => .none))) s')
        (fun e s' => wpAny (model prog w) (A.deeper (ksEnv qual scope s.heap.objs.size f (.ref cda) cc)) (leaving (ksEnv qual scope s.heap.objs.size f (.ref cda) cc) e) (fun _ s'' => R (.error e) s'') (fun e' s'' => R (.error e') s'') s')
        { s with heap := h₀, toks := s.toks + binds.length }) : codeAny (model prog w) A (.call (.ref f) args) R s := by
  obtain ⟨oc, odf, doc, pm, an, ct, osl, rfl, hf⟩ := T.fn
  exact ks_codeAny_call_defAt hroom (X _ _ hf) rfl hlim (codeRec_of X T.cd) rfl hbind T.nc hloc h T.co T.ge T.kd
/-- self.f = e, the first field -/
theorem set_first (EC : ExC K C B newId i bmB) {name : Str} (na : findIn K (.ref C) name = some none) {env : Env} {hh : Heap} {g : Array GenState} {d : Drawn} {t : Nat} {os : OsState} {t1 : Addr} {P : Value → Prop} {e : Expr} {q0 q1 q2 : Pos} {rest : List Stmt} {Q : Flow → Shared → Prop} (X : K.In hh) (hn : hh.Ns L m) (hx : hh.get? x = some (exq C t1 none))
    (he : Sim prog w A env L m e P) (hs : Sim prog w A env L m (.Name "self" q0) (· = .ref x)) (hsw : swapsWith e (some (.Attribute (.Name "self" q0) name q1)) q2.line env = pure false)
    (h : ∀ h' tk dx v, P v → (∀ b o, b ≠ x → hh.get? b = some o → h'.get? b = some o) → hh.objs.size ≤ dx → dx ≠ x → h'.get? x = some (exq C t1 (some dx)) → h'.Ns1 dx (fun y => if y = name then some v else none) → wpAny (model prog w) A (execs rest env) Q E ⟨h', g, d, tk, os⟩) :
    wpAny (model prog w) A (execs (setS name q0 q1 q2 e :: rest) env) Q E ⟨hh, g, d, t, os⟩ := by
  obtain ⟨cd, hcd, ht, hne, hd⟩ := EC.cd
  refine wpAny_execs_cons (plainObj_wpAny_Assign_Attribute ?_ hsw)
  refine he _ _ _ hn fun v tk pv => hs _ _ _ hn fun u tk2 eu => ?_
  subst eu
  refine set_plain X (ox := exq C t1 none) (od := none) ⟨hx, rfl, rfl, trivial⟩ EC.sa ?_
  exact osa_new EC.st X hx hcd ht hne hd na fun h' tk' dx k b ne e1 n1 => h h' tk' dx v pv k b ne e1 n1
/-- a further field -/
theorem set_more (EC : ExC K C B newId i bmB) {name : Str} (na : findIn K (.ref C) name = some none) {env : Env} {hh : Heap} {g : Array GenState} {d : Drawn} {t : Nat} {os : OsState} {t1 dx : Addr} {P : Value → Prop} {e : Expr} {q0 q1 q2 : Pos} {rest : List Stmt} {Q : Flow → Shared → Prop} {m0 : Str → Option Value} {nl : List Str} (X : K.In hh) (hn : hh.Ns L m) (hx : hh.get? x = some (exq C t1 (some dx)))
    (hns : hh.Ns1 dx m0) (hw : Within m0 nl) (hz : nl.length ≤ 1000) (he : Sim prog w A env L m e P) (hs : Sim prog w A env L m (.Name "self" q0) (· = .ref x)) (hsw : swapsWith e (some (.Attribute (.Name "self" q0) name q1)) q2.line env = pure false)
    (h : ∀ h' tk v, P v → (∀ b o, b ≠ dx → hh.get? b = some o → h'.get? b = some o) → h'.Ns1 dx (fun y => if y = name then some v else m0 y) → wpAny (model prog w) A (execs rest env) Q E ⟨h', g, d, tk, os⟩) :
    wpAny (model prog w) A (execs (setS name q0 q1 q2 e :: rest) env) Q E ⟨hh, g, d, t, os⟩ := by
  obtain ⟨cd, hcd, ht, hne, hd⟩ := EC.cd
  obtain ⟨oD, esD, epD, hoD, hdD, _⟩ := hns.count hw
  refine wpAny_execs_cons (plainObj_wpAny_Assign_Attribute ?_ hsw)
  refine he _ _ _ hn fun v tk pv => hs _ _ _ hn fun u tk2 eu => ?_
  subst eu
  refine set_plain X (ox := exq C t1 (some dx)) (od := some oD) ⟨hx, rfl, rfl, hoD⟩ EC.sa ?_
  exact osa_more EC.st X hx hns hw hz hcd ht hne hd na fun h' tk' k n1 => h h' tk' v pv k n1
/-- what an __init__ leaves: of the object at x and its dict -/
structure Done (h h' : Heap) (x C dx : Addr) (mA : Str → Option Value) : Prop where
  keep : ∀ b o, b ≠ x → h.get? b = some o → h'.get? b = some o
  obj : ∃ t1, h'.get? x = some (exq C t1 (some dx))
  big : h.objs.size ≤ dx
  ne : dx ≠ x
  ns : h'.Ns1 dx mA
/-- super().__init__(e); self.code = e2 -/
theorem base_init (EC : ExC K C B newId i bmB) (na : findIn K (.ref C) "code" = some none) {p0 p1 p2 p3 p4 q0 q1 q2 : Pos} {e e2 : Expr} (T : Ini prog K D f qual ps [.Expr (supC p0 p1 p2 p3 e) p4, setS "code" q0 q1 q2 e2] scope cc cda fd) (Md : Mod K mg base) (bk : ∀ b o, base.get? b = some o → s.heap.get? b = some o) (hms : mg "super" = none) (htop : (prog.main.scope.names.lookup ("super" : Str)).isSome = false)
    (hm : ks_superIn K C D "__init__" = some (some (.builtin i))) {cdD : ClassData} (hD : clsIn K D = some cdD) (hsub : mroIn K C (.ref D) = some true) (hlim : s.heap.NoLimit) (hroom : A.depth < recursionLimit) {args : Args} {binds : List (Str × Value)} (hbind : BindsTo s fd args binds) (hloc : ∀ y ∈ binds, scope.names.lookup y.1 = some .local)
    (hself : (binds.reverse.lookup ("self" : Str)) = some (.ref x)) {t0 : Addr} (hx : s.heap.get? x = some (excObj C t0 none .none)) (hxb : base.get? x = none) {P P2 : Value → Prop} {pl : Addr → Sem Bool}
    (he : ∀ L, Sim prog w (A.deeper (ksEnv qual scope L f (.ref cda) cc)) (ksEnv qual scope L f (.ref cda) cc) L (fun y => binds.reverse.lookup y) e P) (he2 : ∀ L, Sim prog w (A.deeper (ksEnv qual scope L f (.ref cda) cc)) (ksEnv qual scope L f (.ref cda) cc) L (fun y => binds.reverse.lookup y) e2 P2)
    (hse : ∀ L, starEach [e] (ksEnv qual scope L f (.ref cda) cc) = (false, eval e (ksEnv qual scope L f (.ref cda) cc)) :: starEach [] (ksEnv qual scope L f (.ref cda) cc))
    (hev : ∀ L, eval (supC p0 p1 p2 p3 e) (ksEnv qual scope L f (.ref cda) cc) = (do
      let ov ← attributeBase (.Call (.Name "super" p0) [] [] p1) "__init__" (ksEnv qual scope L f (.ref cda) cc) (eval (.Call (.Name "super" p0) [] [] p1) (ksEnv qual scope L f (.ref cda) cc))
      standAt p2.atName
      let (f2, first) ← holding [ov] (getMethod ov "__init__" (pl L))
      callWith p3 f2 first (backTo p3 (starEach [e] (ksEnv qual scope L f (.ref cda) cc))) []))
    (hsw1 : ∀ L, swapsWith (supC p0 p1 p2 p3 e) none p4.line (ksEnv qual scope L f (.ref cda) cc) = pure false) (hsw2 : ∀ L, swapsWith e2 (some (.Attribute (.Name "self" q0) "code" q1)) q2.line (ksEnv qual scope L f (.ref cda) cc) = pure false)
    (hq : ∀ h' tk dx v, P2 v → Done s.heap h' x C dx (fun y => if y = "code" then some v else none) → R (.ok (.ret .none)) { s with heap := h', toks := tk }) :
    codeAny (model prog w) A (.call (.ref f) args) R s := by
  have X : K.In s.heap := Md.kin.keeps bk
  refine init_frame T X hlim hroom hbind hloc fun h0 hn k0 => ?_
  obtain ⟨hp, g, d, tk0, os⟩ := s
  have hxL : hp.objs.size ≠ x := Nat.ne_of_gt (Heap.lt_size hx)
  refine ks_wpAt_execs_cons (ks_wpAt_Expr_any ?_ (T.ia _) (hsw1 _))
  refine sup_mw EC.kf EC.fb EC.qI EC.no hm EC.sB T Md (fun b o z => k0 b o (bk b o z)) hms htop hD hsub hn hself (k0 _ _ hx) hxb hxL (he _) (hse _) (hev _) fun h1 tk1 t1 k1 e1 => ?_
  show _root_.PySem.wpAt _ _ _ (execs _ _) _ _ _
  refine wpAt_of_wpAny ?_
  have X1 : K.In h1 := fun a o z => k1 a o (fun ea => by
    have := Md.kin _ _ z
    rw [ea, hxb] at this; cases this) (k0 _ _ (X _ _ z))
  have hn1 : h1.Ns hp.objs.size (fun y => binds.reverse.lookup y) := hn.at fun o z => k1 _ o hxL z
  refine set_first EC na X1 hn1 e1 (he2 _) (sim_name T.kd T.ka hself (by decide)) (hsw2 _) fun h2 tk2 dx v pv k2 b2 n2 e2 ns2 => ?_
  refine wpAny_execs_nil (hq h2 tk2 dx v pv ⟨fun b o hb z => k2 b o hb (k1 b o hb (k0 b o z)), ⟨t1, e2⟩, ?_, n2, ns2⟩)
  have z1 : hp.objs.size < h1.objs.size := hn1.lt
  exact Nat.le_of_lt (Nat.lt_of_lt_of_le z1 b2)
end
end XO
end PySem
set_option Elab.async false
set_option linter.all false
set_option maxRecDepth 100000
set_option maxHeartbeats 4000000
namespace PySem
namespace XO
open PySem.W PySem.Calls PyProof.Rows PySem.HandSPX L2
section
variable {prog : Program} {w : World} {A : Around} {E : Value → Shared → Prop} {K : Frag} {mg : Str → Option Value} {base : Heap} {hh : Heap} {g : Array GenState} {d : Drawn} {t : Nat} {os : OsState}
variable {D C f f2 cc cda x L : Addr} {qual : Str} {ps : Arguments} {body : List Stmt} {scope : Scope} {fd : FuncData} {m : Str → Option Value}
/-- super().__init__(e), the one of a class of the text -/
theorem sup_fn (hno : nsIn K cStatics "thirdparty.any" = some none) (hm : ks_superIn K C D "__init__" = some (some (.ref f2))) (ht : typeIn K (.ref f2) = some (.type "function")) (hfn : fnIn K f2 = true)
    (T : Ini prog K D f qual ps body scope cc cda fd) (Md : Mod K mg base) (bk : ∀ b o, base.get? b = some o → hh.get? b = some o) (hms : mg "super" = none) (htop : (prog.main.scope.names.lookup ("super" : Str)).isSome = false)
    {cdD : ClassData} {t0 : Addr} (hD : clsIn K D = some cdD) (hsub : mroIn K C (.ref D) = some true) (hn : hh.Ns L m) (hv : m "self" = some (.ref x)) (hx : hh.get? x = some (excObj C t0 none .none)) {p0 p1 p2 p3 : Pos} {e : Expr} {P : Value → Prop} {Q : Value → Shared → Prop} {bd : List Stmt} {pl : Sem Bool}
    (he : Sim prog w A (ksEnv qual scope L f (.ref cda) cc) L m e P) (hse : starEach [e] (ksEnv qual scope L f (.ref cda) cc) = (false, eval e (ksEnv qual scope L f (.ref cda) cc)) :: starEach [] (ksEnv qual scope L f (.ref cda) cc))
    (hev : eval (supC p0 p1 p2 p3 e) (ksEnv qual scope L f (.ref cda) cc) = (do
      let ov ← attributeBase (.Call (.Name "super" p0) [] [] p1) "__init__" (ksEnv qual scope L f (.ref cda) cc) (eval (.Call (.Name "super" p0) [] [] p1) (ksEnv qual scope L f (.ref cda) cc))
      standAt p2.atName
      let (f2, first) ← holding [ov] (getMethod ov "__init__" pl)
      callWith p3 f2 first (backTo p3 (starEach [e] (ksEnv qual scope L f (.ref cda) cc))) []))
    (h : ∀ h' tk v, P v → (∀ b o, hh.get? b = some o → h'.get? b = some o) → codeAny (model prog w) A (.call (.ref f2) ⟨[.ref x, v], []⟩) (fun r s' => match r with | .ok (.ret u) => Q u s' | .ok _ => False | .error e => E e s') ⟨h', g, d, tk, os⟩) :
    _root_.PySem.wpAt (model prog w) A (.func bd (ksEnv qual scope L f (.ref cda) cc)) (eval (supC p0 p1 p2 p3 e) (ksEnv qual scope L f (.ref cda) cc)) Q E ⟨hh, g, d, t, os⟩ := by
  have I : InstAt hh x (excObj C t0 none .none) C none := ⟨hx, rfl, rfl, trivial⟩
  refine ks_wpAt_MethodCall ?_ hev
  refine sup_node T Md bk hms htop hD hsub hn hv I fun h1 e1 k1 => ?_
  have X1 : K.In h1 := (Md.kin.keeps bk).keeps k1
  have I1 : InstAt h1 x (excObj C t0 none .none) C none := ⟨k1 _ _ hx, rfl, rfl, trivial⟩
  cases hc : clsIn K C with
  | none => unfold ks_superIn at hm; rw [hc] at hm; cases hm
  | some cd =>
    unfold ks_superIn at hm
    rw [hc] at hm
    obtain ⟨of, hof, hofc⟩ : ∃ of, h1.get? f2 = some of ∧ of.cls = .type "function" := by
      have ht' : (K.lookup f2).map (·.cls) = some (.type "function") := ht
      cases z : K.lookup f2 with
      | none => rw [z] at ht'; cases ht'
      | some of => rw [z] at ht'; exact ⟨of, X1 _ _ z, Option.some.inj ht'⟩
    refine ks_wpAny_getMethod_super e1 (looks_opaque X1 hno) (l₀ := cd.mro) (fun A Q E s k q => wpAny_bind ((looks_clsIn X1 hc) A _ E s k (wpAny_pure q))) rfl X1 hm hof hofc (ks_ne X1 I1 hc) rfl ?_
    have k2 : ∀ b o, h1.get? b = some o → (h1.push (methodObj (.ref f2) (.ref x))).get? b = some o := fun b o z => Heap.get?_push_of_some _ z
    have hu : (h1.push (methodObj (.ref f2) (.ref x))).get? h1.objs.size = some (methodObj (.ref f2) (.ref x)) := Heap.get?_push_at rfl rfl
    rw [hse]
    refine callWith_of (P := MethP K h1.objs.size f2 (.ref x)) (by first | rfl | decide) (keeps_M hfn) (evalArgs_plain (spliced_cons (he _ _ _ ((hn.keeps k1).keeps k2) fun v tk pv => ?_)))
    refine spliced_nil ⟨⟨hu, X1.keeps k2⟩, ?_⟩
    refine wpAny_call (codeAny_mono (method_call hu (h _ tk v pv fun b o z => k2 _ _ (k1 _ _ z))) fun r s' z => ?_)
    rcases r with e | (v | _ | _ | _) <;> first | exact z | exact z.elim
end
end XO
end PySem
set_option Elab.async false
set_option linter.all false
set_option maxRecDepth 100000
set_option maxHeartbeats 4000000
namespace PySem
namespace XO
open PySem.W PySem.Calls PyProof.Rows PySem.HandSPX L2
/-- an __init__ with the values us leaves the attributes that M tells -/
def InitOk (prog : Program) (w : World) (K : Frag) (mg : Str → Option Value) (base : Heap) (n : Nat) (C f : Addr) (us : List Value) (M : (Str → Option Value) → Prop) : Prop :=
  ∀ (A : Around) (R : Result → Shared → Prop) (s : Shared) (x t0 : Addr), (∀ b o, base.get? b = some o → s.heap.get? b = some o) → s.heap.NoLimit → A.depth + n < recursionLimit → s.heap.get? x = some (excObj C t0 none .none) → base.get? x = none →
    (∀ h' tk dx mA, M mA → Done s.heap h' x C dx mA → R (.ok (.ret .none)) { s with heap := h', toks := tk }) → codeAny (model prog w) A (.call (.ref f) ⟨.ref x :: us, []⟩) R s
/-- a made error -/
structure Made (h h' : Heap) (e C d : Addr) (mA : Str → Option Value) : Prop where
  keep : ∀ b o, h.get? b = some o → h'.get? b = some o
  new : h.objs.size ≤ e
  obj : ∃ t1, h'.get? e = some (exq C t1 (some d))
  dbig : h.objs.size ≤ d
  dne : d ≠ e
  ns : h'.Ns1 d mA
section
variable {prog : Program} {w : World} {A : Around} {E : Value → Shared → Prop} {K : Frag} {mg : Str → Option Value} {base : Heap} {s : Shared} {R : Result → Shared → Prop}
variable {C f f2 cc cda : Addr} {qual : Str} {ps : Arguments} {scope : Scope} {fd : FuncData} {B newId i : String} {bmB : List Value}
theorem made (EC : ExC K C B newId i bmB) {fI : Addr} {us : List Value} {M : (Str → Option Value) → Prop} {n : Nat} (Md : Mod K mg base) (iC : findIn K (.ref C) "__init__" = some (some (.ref fI))) (tC : typeIn K (.ref fI) = some (.type "function")) (hz : us.length ≤ sizeLine)
    (IO : InitOk prog w K mg base n C fI us M) (bk : ∀ b o, base.get? b = some o → s.heap.get? b = some o) (hlim : s.heap.NoLimit) (hroom : A.depth + (n + 1) < recursionLimit)
    (hq : ∀ h' tk e d mA, M mA → Made s.heap h' e C d mA → R (.ok (.ret (.ref e))) { s with heap := h', toks := tk }) : codeAny (model prog w) A (.call (.ref C) ⟨us, []⟩) R s := by
  have X : K.In s.heap := Md.kin.keeps bk
  obtain ⟨nm, N', qn, bs, bm, hdct, sn, sub, ab, col, dd, k0, k1, k2, k3, k5, hC, hT⟩ := excInit_of X EC.qI
  obtain ⟨hp, g, dr, tk, os⟩ := s
  have k : ∀ b o, hp.get? b = some o → ((hp.push (kdv_tup us)).push (excO C hp.objs.size)).get? b = some o := fun b o e => Heap.get?_push_of_some _ (Heap.get?_push_of_some _ e)
  have hget : ((hp.push (kdv_tup us)).push (excO C hp.objs.size)).get? (hp.objs.size + 1) = some (excO C hp.objs.size) := by heap_get
  have hxb : base.get? (hp.objs.size + 1) = none := by
    cases e : base.get? (hp.objs.size + 1) with
    | none => rfl
    | some o => exact absurd (Nat.lt_of_succ_lt (Heap.lt_size (bk _ _ e))) (Nat.lt_irrefl _)
  refine call_own EC.fb hT hC (looks_findIn X iC) (fun self => bind_fn X self tC) hz ?_
  refine IO _ _ ⟨(hp.push (kdv_tup us)).push (excO C hp.objs.size), g, dr, tk, os⟩ (hp.objs.size + 1) hp.objs.size (fun b o z => k b o (bk b o z)) (hlim.keeps k) (by show A.depth + 1 + n < recursionLimit; omega) hget hxb fun h' tk' dx mA hM ⟨k', hx, dn, dne, hns⟩ => ?_
  have old : ∀ b o, hp.get? b = some o → h'.get? b = some o := fun b o e => k' b o (Nat.ne_of_lt (Nat.lt_succ_of_lt (Heap.lt_size e))) (k b o e)
  have z : hp.objs.size + 1 + 1 ≤ dx := by
    first
      | (simpa only [Heap.size_push] using dn)
      | exact dn
      | (have q := dn; rw [Heap.size_push, Heap.size_push] at q; exact q)
  exact ⟨rfl, hq h' tk' (hp.objs.size + 1) dx mA hM ⟨old, Nat.le_succ _, hx, Nat.le_trans (Nat.le_trans (Nat.le_succ _) (Nat.le_succ _)) z, dne, hns⟩⟩
/-- super().__init__(e), then the rest -/
theorem sub_init (EC : ExC K C B newId i bmB) {us : List Value} {p0 p1 p2 p3 p4 : Pos} {e : Expr} {rest : List Stmt} (T : Ini prog K C f qual ps (.Expr (supC p0 p1 p2 p3 e) p4 :: rest) scope cc cda fd) (Md : Mod K mg base) (hms : mg "super" = none) (htop : (prog.main.scope.names.lookup ("super" : Str)).isSome = false)
    (hm : ks_superIn K C C "__init__" = some (some (.ref f2))) (ht : typeIn K (.ref f2) = some (.type "function")) (hfn : fnIn K f2 = true) (hsub : mroIn K C (.ref C) = some true) {bs : Value → List (Str × Value)} (hbind : ∀ s x, BindsTo s fd ⟨x :: us, []⟩ (bs x)) (hloc : ∀ x, ∀ y ∈ bs x, scope.names.lookup y.1 = some .local)
    (hself : ∀ x, ((bs x).reverse.lookup ("self" : Str)) = some x) {P : Value → Prop} {pl : Addr → Sem Bool} {M : (Str → Option Value) → Prop} {n : Nat}
    (he : ∀ A L x, Sim prog w A (ksEnv qual scope L f (.ref cda) cc) L (fun y => (bs x).reverse.lookup y) e P)
    (hse : ∀ L, starEach [e] (ksEnv qual scope L f (.ref cda) cc) = (false, eval e (ksEnv qual scope L f (.ref cda) cc)) :: starEach [] (ksEnv qual scope L f (.ref cda) cc))
    (hev : ∀ L, eval (supC p0 p1 p2 p3 e) (ksEnv qual scope L f (.ref cda) cc) = (do
      let ov ← attributeBase (.Call (.Name "super" p0) [] [] p1) "__init__" (ksEnv qual scope L f (.ref cda) cc) (eval (.Call (.Name "super" p0) [] [] p1) (ksEnv qual scope L f (.ref cda) cc))
      standAt p2.atName
      let (f2, first) ← holding [ov] (getMethod ov "__init__" (pl L))
      callWith p3 f2 first (backTo p3 (starEach [e] (ksEnv qual scope L f (.ref cda) cc))) []))
    (hsw1 : ∀ L, swapsWith (supC p0 p1 p2 p3 e) none p4.line (ksEnv qual scope L f (.ref cda) cc) = pure false)
    (BO : ∀ v, P v → InitOk prog w K mg base n C f2 [v] (fun mA => mA = fun (y : Str) => if y = "code" then some v else none))
    (hr : ∀ (A : Around) (E : Value → Shared → Prop) (Q : Flow → Shared → Prop) (L x t1 dx : Addr) (v : Value) (hh : Heap) (g : Array GenState) (d : Drawn) (t : Nat) (os : OsState), P v → K.In hh → hh.Ns L (fun y => (bs (.ref x)).reverse.lookup y) → hh.get? x = some (exq C t1 (some dx)) → dx ≠ L → x ≠ L → dx ≠ x → K.lookup dx = none → hh.Ns1 dx (fun y => if y = "code" then some v else none) →
      (∀ h' tk mA, M mA → (∀ b o, b ≠ dx → hh.get? b = some o → h'.get? b = some o) → h'.Ns1 dx mA → Q .next ⟨h', g, d, tk, os⟩) → wpAny (model prog w) A (execs rest (ksEnv qual scope L f (.ref cda) cc)) Q E ⟨hh, g, d, t, os⟩) :
    InitOk prog w K mg base (n + 1) C f us M := by
  intro A R s x t0 bk hlim hroom hx hxb hq
  have X : K.In s.heap := Md.kin.keeps bk
  obtain ⟨cd, hcd, _⟩ := EC.cd
  refine init_frame T X hlim (by omega) (hbind s (.ref x)) (hloc (.ref x)) fun h0 hn k0 => ?_
  obtain ⟨hp, g, d, tk0, os⟩ := s
  have hxL : hp.objs.size ≠ x := Nat.ne_of_gt (Heap.lt_size hx)
  refine ks_wpAt_execs_cons (ks_wpAt_Expr_any ?_ (T.ia _) (hsw1 _))
  refine sup_fn EC.no hm ht hfn T Md (fun b o z => k0 b o (bk b o z)) hms htop hcd hsub hn (hself _) (k0 _ _ hx) (he _ _ _) (hse _) (hev _) fun h1 tk1 v pv k1 => ?_
  refine BO v pv _ _ ⟨h1, g, d, tk1, os⟩ x t0 (fun b o z => k1 _ _ (k0 b o (bk b o z))) ((hlim.keeps k0).keeps k1) (by show A.depth + 1 + n < recursionLimit; omega) (k1 _ _ (k0 _ _ hx)) hxb fun h2 tk2 dx mA hM ⟨k2, ⟨t1, e2⟩, b2, n2, ns2⟩ => ?_
  subst hM
  show _root_.PySem.wpAt _ _ _ (execs _ _) _ _ _
  refine wpAt_of_wpAny ?_
  have hn1 : h1.Ns hp.objs.size (fun y => (bs (.ref x)).reverse.lookup y) := hn.keeps k1
  have hn2 : h2.Ns hp.objs.size (fun y => (bs (.ref x)).reverse.lookup y) := hn1.at fun o z => k2 _ o hxL z
  have bigL : hp.objs.size < h1.objs.size := hn1.lt
  have bigD : hp.objs.size < dx := Nat.lt_of_lt_of_le bigL b2
  have X2 : K.In h2 := fun a o z => k2 a o (fun ea => by
    have := Md.kin _ _ z
    rw [ea, hxb] at this; cases this) (k1 _ _ (k0 _ _ (X _ _ z)))
  have nK : K.lookup dx = none := by
    cases e : K.lookup dx with
    | none => rfl
    | some o => exact absurd (Nat.lt_trans (Heap.lt_size (X _ _ e)) bigD) (Nat.lt_irrefl _)
  refine hr _ _ _ hp.objs.size x t1 dx v h2 g d tk2 os pv X2 hn2 e2 (Nat.ne_of_gt bigD) hxL.symm n2 nK ns2 fun h3 tk3 mA hM k3 ns3 => ?_
  refine hq h3 tk3 dx mA hM ⟨fun b o hb z => k3 b o (fun eb => ?_) (k2 b o hb (k1 b o (k0 b o z))), ⟨t1, k3 _ _ n2.symm e2⟩, Nat.le_of_lt bigD, n2, ns3⟩
  rw [eb] at z
  exact absurd (Nat.lt_trans (Heap.lt_size z) bigD) (Nat.lt_irrefl _)
end
end XO
end PySem
set_option Elab.async false
set_option linter.all false
set_option maxRecDepth 100000
set_option maxHeartbeats 4000000
namespace PySem
namespace XO
open PySem.W PySem.Calls PyProof.Rows PySem.HandSPX L2
section
variable {prog : Program} {w : World} {K : Frag} {mg : Str → Option Value} {base : Heap}
variable {C D f f2 cc cda : Addr} {qual : Str} {ps : Arguments} {scope : Scope} {fd : FuncData} {B newId i : String} {bmB : List Value}
/-- def __init__(self, code): super().__init__(code); self.code = code -/
theorem base_ok (EC : ExC K C B newId i bmB) (na : findIn K (.ref C) "code" = some none) {p0 p1 p2 p3 p4 q0 q1 q2 r0 r1 : Pos} (T : Ini prog K D f qual ps [.Expr (supC p0 p1 p2 p3 (.Name "code" r0)) p4, setS "code" q0 q1 q2 (.Name "code" r1)] scope cc cda fd) (Md : Mod K mg base) (hms : mg "super" = none) (htop : (prog.main.scope.names.lookup ("super" : Str)).isSome = false)
    (hm : ks_superIn K C D "__init__" = some (some (.builtin i))) {cdD : ClassData} (hD : clsIn K D = some cdD) (hsub : mroIn K C (.ref D) = some true) (kcode : scope.names.lookup ("code" : Str) = some .local)
    {pl : Addr → Sem Bool} (hev : ∀ L, eval (supC p0 p1 p2 p3 (.Name "code" r0)) (ksEnv qual scope L f (.ref cda) cc) = (do
      let ov ← attributeBase (.Call (.Name "super" p0) [] [] p1) "__init__" (ksEnv qual scope L f (.ref cda) cc) (eval (.Call (.Name "super" p0) [] [] p1) (ksEnv qual scope L f (.ref cda) cc))
      standAt p2.atName
      let (f2, first) ← holding [ov] (getMethod ov "__init__" (pl L))
      callWith p3 f2 first (backTo p3 (starEach [(.Name "code" r0)] (ksEnv qual scope L f (.ref cda) cc))) []))
    (hbind : ∀ s x v, BindsTo s fd ⟨[x, v], []⟩ [("self", x), ("code", v)]) (v : Value) :
    InitOk prog w K mg base 0 C f [v] (fun mA => mA = fun (y : Str) => if y = "code" then some v else none) := by
  intro A R s x t0 bk hlim hroom hx hxb hq
  refine base_init EC na (P := (· = v)) (P2 := (· = v)) T Md bk hms htop hm hD hsub hlim hroom (hbind s (.ref x) v) (fun y hy => ?_) (by rfl) hx hxb (fun L => sim_name T.kd kcode rfl (by decide)) (fun L => sim_name T.kd kcode rfl (by decide)) (fun L => rfl) hev (fun L => rfl) (fun L => rfl) fun h' tk dx u hu dn => ?_
  · have hy' : y = (("self" : Str), Value.ref x) ∨ y = (("code" : Str), v) := by simpa using hy
    rcases hy' with e | e
    · rw [e]; exact T.ka
    · rw [e]; exact kcode
  · subst hu
    exact hq h' tk dx _ rfl dn
/-- def __init__(self, a): super().__init__("N"); self.a = a -/
theorem sub1_ok (EC : ExC K C B newId i bmB) {a : Str} (na : findIn K (.ref C) a = some none) {p0 p1 p2 p3 p4 r0 q0 q1 q2 r1 : Pos} {N : Str} {j0 n : Nat} (T : Ini prog K C f qual ps [.Expr (supC p0 p1 p2 p3 (.Constant (.str N) j0 r0)) p4, setS a q0 q1 q2 (.Name a r1)] scope cc cda fd) (Md : Mod K mg base) (hms : mg "super" = none) (htop : (prog.main.scope.names.lookup ("super" : Str)).isSome = false)
    (hm : ks_superIn K C C "__init__" = some (some (.ref f2))) (ht : typeIn K (.ref f2) = some (.type "function")) (hfn : fnIn K f2 = true) (hsub : mroIn K C (.ref C) = some true) (kal : scope.names.lookup a = some .local) (had : (a == ("__debug__" : Str)) = false) (has : a ≠ "self")
    {pl : Addr → Sem Bool} (hev : ∀ L, eval (supC p0 p1 p2 p3 (.Constant (.str N) j0 r0)) (ksEnv qual scope L f (.ref cda) cc) = (do
      let ov ← attributeBase (.Call (.Name "super" p0) [] [] p1) "__init__" (ksEnv qual scope L f (.ref cda) cc) (eval (.Call (.Name "super" p0) [] [] p1) (ksEnv qual scope L f (.ref cda) cc))
      standAt p2.atName
      let (f2, first) ← holding [ov] (getMethod ov "__init__" (pl L))
      callWith p3 f2 first (backTo p3 (starEach [(.Constant (.str N) j0 r0)] (ksEnv qual scope L f (.ref cda) cc))) []))
    (hbind : ∀ s x v, BindsTo s fd ⟨[x, v], []⟩ [("self", x), (a, v)]) (BO : ∀ v, InitOk prog w K mg base n C f2 [v] (fun mA => mA = fun (y : Str) => if y = "code" then some v else none)) (u : Value) :
    InitOk prog w K mg base (n + 1) C f [u] (fun mA => ∃ t, mA = fun (y : Str) => if y = a then some u else if y = "code" then some (.str N t) else none) := by
  have la : ∀ x : Value, List.lookup a [(a, u), (("self" : Str), x)] = some u := fun x => by simp [List.lookup]
  have ls : ∀ x : Value, List.lookup ("self" : Str) [(a, u), (("self" : Str), x)] = some x := fun x => by
    have : (("self" : Str) == a) = false := by simpa using fun e => has e.symm
    simp [List.lookup, this]
  refine sub_init EC (P := fun v => ∃ t, v = .str N t) (bs := fun x => [("self", x), (a, u)]) T Md hms htop hm ht hfn hsub (fun s x => hbind s x u) (fun x y hy => ?_) (fun x => ls x) (fun A L x => sim_str) (fun L => rfl) hev (fun L => rfl) (fun v _ => BO v) ?_
  · have hy' : y = (("self" : Str), x) ∨ y = (a, u) := by simpa using hy
    rcases hy' with e | e
    · rw [e]; exact T.ka
    · rw [e]; exact kal
  · intro A E Q L x t1 dx v hh g d t os ⟨tv, ev⟩ X hn hx n1 n2 n3 nK hns hq
    subst ev
    refine set_more EC na (P := (· = u)) X hn hx hns (nl := ["code"]) (Within.cons "code" (.str N tv) Within.nil) (by decide) (sim_name T.kd kal (la (.ref x)) had) (sim_name T.kd T.ka (ls (.ref x)) (by decide)) rfl fun h' tk v hv k ns => ?_
    subst hv
    exact wpAny_execs_nil (hq h' tk _ ⟨tv, rfl⟩ k ns)
end
end XO
end PySem
set_option Elab.async false
set_option linter.all false
set_option maxRecDepth 100000
set_option maxHeartbeats 4000000
namespace SN
open PySem PySem.Spec PyProof.Rows L2
/-- every slot begins a run, from anywhere -/
def Cov (m : Nat) : Prop := ∀ i j, i ≤ m → j ≤ m → ∃ k, k ≤ m ∧ lcgI m i k = j
def lg (n : Nat) : Nat → Nat → Bool
  | 0, x => x == 0
  | k + 1, x => x != 0 && lg n k ((x * 5 + 1) % n)
theorem lg_ok {m : Nat} : ∀ (k b : Nat), lg (m + 1) k (lcgN m b) = true → (∀ c, c < k → lcgN m (b + c) ≠ 0) ∧ lcgN m (b + k) = 0
  | 0, b, h => ⟨fun c hc => absurd hc (Nat.not_lt_zero _), by unfold lg at h; simpa using h⟩
  | k + 1, b, h => by
    unfold lg at h
    rw [Bool.and_eq_true] at h
    obtain ⟨h1, h2⟩ := lg_ok (m := m) k (b + 1) h.2
    have e : ∀ c, b + 1 + c = b + (c + 1) := fun c => by omega
    refine ⟨fun c hc => ?_, by rw [← e k]; exact h2⟩
    cases c with
    | zero => simpa using h.1
    | succ c => rw [← e c]; exact h1 c (by omega)
theorem cov_of {m : Nat} (hz : lg (m + 1) m 1 = true) (m0 : 0 < m) (inj : ∀ a b, a ≤ m → b ≤ m → (a * 5 + 1) % (m + 1) = (b * 5 + 1) % (m + 1) → a = b) : Cov m := by
  have e1 : lcgN m 1 = 1 := by
    show (0 * 5 + 1) % (m + 1) = 1
    rw [Nat.zero_mul, Nat.zero_add, Nat.mod_eq_of_lt (by omega)]
  obtain ⟨nz, z⟩ := lg_ok (m := m) m 1 (by rw [e1]; exact hz)
  rw [Nat.add_comm] at z
  have le : ∀ k, lcgN m k ≤ m := fun k => by
    cases k with
    | zero => exact Nat.zero_le _
    | succ k => exact Nat.le_of_lt_succ (Nat.mod_lt _ (Nat.succ_pos _))
  have back : ∀ a b, a ≤ b → lcgN m a = lcgN m b → lcgN m (b - a) = 0 := by
    intro a
    induction a with
    | zero => intro b _ h; rw [Nat.sub_zero, ← h]; rfl
    | succ a ih =>
      intro b hb h
      obtain ⟨c, rfl⟩ : ∃ c, b = c + 1 := ⟨b - 1, by omega⟩
      have := ih c (by omega) (inj _ _ (le a) (le c) h)
      rw [show c + 1 - (a + 1) = c - a by omega]
      exact this
  have dist : ∀ a b, a < b → b ≤ m → lcgN m a ≠ lcgN m b := fun a b hab hb h => by
    have := back a b (by omega) h
    refine nz (b - a - 1) (by omega) ?_
    rw [show 1 + (b - a - 1) = b - a by omega]
    exact this
  have surj : ∀ j, j ≤ m → ∃ b, b ≤ m ∧ lcgN m b = j := fun j hj => by
    rcases Classical.em (∃ b, b ≤ m ∧ lcgN m b = j) with h | h
    · exact h
    · exfalso
      have nd : ((List.range (m + 1)).map (lcgN m)).Nodup := by
        unfold List.Nodup
        rw [List.pairwise_map]
        have : (List.range (m + 1)).Pairwise (· < ·) := List.pairwise_lt_range
        exact this.imp_of_mem fun {a b} _ hb hab => dist a b hab (Nat.le_of_lt_succ (List.mem_range.mp hb))
      have q := nat_nodup_len _ ((List.range (m + 1)).erase j) nd fun x hx => by
        obtain ⟨b, hb, rfl⟩ := List.mem_map.mp hx
        have hb := Nat.le_of_lt_succ (List.mem_range.mp hb)
        exact (List.mem_erase_of_ne fun e => h ⟨b, hb, e⟩).2 (List.mem_range.mpr (Nat.lt_succ_of_le (le b)))
      rw [List.length_map, List.length_range, List.length_erase_of_mem (List.mem_range.mpr (Nat.lt_succ_of_le hj)), List.length_range] at q
      omega
  have per : ∀ k, lcgN m (m + 1 + k) = lcgN m k := fun k => by
    induction k with
    | zero => exact z
    | succ k ih =>
      show (lcgN m (m + 1 + k) * 5 + 1) % (m + 1) = (lcgN m k * 5 + 1) % (m + 1)
      rw [ih]
  intro i j hi hj
  obtain ⟨a, ha, ea⟩ := surj i hi
  obtain ⟨b, hb, eb⟩ := surj j hj
  by_cases c : a ≤ b
  · refine ⟨b - a, by omega, ?_⟩
    rw [← ea, lcgN_add, show a + (b - a) = b by omega, eb]
  · refine ⟨b + (m + 1) - a, by omega, ?_⟩
    rw [← ea, lcgN_add, show a + (b + (m + 1) - a) = m + 1 + b by omega, per, eb]
theorem cov7 : Cov 7 := cov_of (by decide +kernel) (by decide) fun a b _ _ h => by omega
theorem cov31 : Cov 31 := cov_of (by decide +kernel) (by decide) fun a b _ _ h => by omega
theorem cov127 : Cov 127 := cov_of (by decide +kernel) (by decide) fun a b _ _ h => by omega
theorem cov511 : Cov 511 := cov_of (by decide +kernel) (by decide) fun a b _ _ h => by omega
theorem cov2047 : Cov 2047 := cov_of (by decide +kernel) (by decide) fun a b _ _ h => by omega
/-- the masks that come, with room for so many -/
def Msk (m : Nat) : Prop := m = 7 ∨ m = 31 ∨ m = 127 ∨ m = 511 ∨ m = 2047
theorem Msk.cov {m : Nat} (h : Msk m) : Cov m := by
  rcases h with rfl | rfl | rfl | rfl | rfl
  · exact cov7
  · exact cov31
  · exact cov127
  · exact cov511
  · exact cov2047
theorem meets {m : Nat} (hm : Msk m) (h : Int) {j : Nat} (hj : j ≤ m) : ∃ n, n ≤ m + 12 ∧ runI m (SetTable.bits h) n = j := by
  obtain ⟨k, hk, e⟩ := hm.cov _ j (runI_le m (SetTable.bits h) 12) hj
  exact ⟨12 + k, by omega, (runI_tail (bits_lt h) k).trans e⟩
theorem way_in {m : Nat} {h : Int} {k : Nat} : way m h k ≤ m := by
  have hi : SetTable.bits h % (m + 1) ≤ m := Nat.le_of_lt_succ (Nat.mod_lt _ (Nat.succ_pos _))
  have r := runEnd_bd hi
  have q := nth_in (m := m) k (runAt m (SetTable.bits h % (m + 1)) (SetTable.bits h)) (by
    show SetTable.bits h % (m + 1) + (SetTable.runEnd m (SetTable.bits h % (m + 1)) - SetTable.bits h % (m + 1)) ≤ m
    omega)
  exact Nat.le_trans (Nat.le_add_right _ _) q
theorem way_meets {m : Nat} (hm : Msk m) (h : Int) {j : Nat} (hj : j ≤ m) : ∃ k, k < 10 * SetTable.turns m ∧ way m h k = j := by
  obtain ⟨n, hn, e⟩ := meets hm h hj
  obtain ⟨k, hk, e2⟩ := run_nth m (SetTable.bits h) n
  exact ⟨k, by unfold SetTable.turns; omega, (congrArg SetTable.Probe.j e2).trans e⟩
/-- each stored hash is found from its beginning, over slots that are taken -/
structure Tb (t : SetTable) (hs : List Int) : Prop where
  ris : Ris t.place.toList
  dm : t.dummies = #[]
  sz : t.place.size = hs.length
  msk : Msk t.mask
  bd : ∀ x ∈ t.place.toList, x ≤ t.mask
  reach : ∀ (i : Nat) (h : Int) (j : Nat), hs[i]? = some h → t.place.toList[i]? = some j → ∃ k, way t.mask h k = j ∧ ∀ k', k' < k → way t.mask h k' ∈ t.place.toList
theorem Tb.first {t : SetTable} {hs : List Int} (T : Tb t hs) (hl : hs.length ≤ t.mask) (h : Int) : ∃ K, K < 10 * SetTable.turns t.mask ∧ way t.mask h K ∉ t.place.toList ∧ ∀ k, k < K → way t.mask h k ∈ t.place.toList := by
  obtain ⟨j, hj, hn⟩ := st_missing t.place.toList (t.mask + 1) (by rw [Array.length_toList, T.sz]; omega)
  obtain ⟨k, hk, e⟩ := way_meets T.msk h (Nat.le_of_lt_succ hj)
  obtain ⟨K, h1, h2, h3⟩ := st_least (p := fun k => way t.mask h k ∉ t.place.toList) k (show way t.mask h k ∉ t.place.toList by rw [e]; exact hn)
  exact ⟨K, Nat.lt_of_le_of_lt h1 hk, h2, fun k' hk' => Classical.not_not.mp (h3 k' hk')⟩
/-- one more, at the first free slot of its way -/
theorem Tb.more {t : SetTable} {hs : List Int} (T : Tb t hs) {h : Int} {K p : Nat} (hp : SetTable.below t.place (way t.mask h K) = p) (hK : way t.mask h K ∉ t.place.toList) (hb : ∀ k, k < K → way t.mask h k ∈ t.place.toList) :
    p ≤ hs.length ∧ Tb (t.put (way t.mask h K)).1 (hs.take p ++ h :: hs.drop p) ∧ (t.put (way t.mask h K)).1.fill = hs.length + 1 := by
  have hjm := way_in (m := t.mask) (h := h) (k := K)
  generalize hj : way t.mask h K = j at *
  obtain ⟨c1, _, _⟩ := below_cut T.ris j
  rw [hp] at c1
  have hpl : p ≤ t.place.toList.length := by rw [Array.length_toList]; exact c1
  have hph : p ≤ hs.length := by rw [← T.sz]; exact c1
  have hpp : (t.put j).1.place.toList = t.place.toList.take p ++ j :: t.place.toList.drop p := by rw [put_place, hp]
  have hsz : (t.put j).1.place.size = hs.length + 1 := by
    rw [← Array.length_toList, hpp, len_ins _ hpl, Array.length_toList, T.sz]
  have up : ∀ {x : Nat}, x ∈ t.place.toList → x ∈ (t.put j).1.place.toList := fun hx => by rw [hpp]; exact mem_ins.2 (.inr hx)
  have fresh : t.place[SetTable.below t.place j]? ≠ some j := fun e => hK (List.mem_of_getElem? (by rw [Array.getElem?_toList]; exact e))
  refine ⟨hph, ⟨ris_insert T.ris fresh, put_dm T.dm j, by rw [hsz, len_ins _ hph], T.msk, fun x hx => ?_, fun i h' j' h1 h2 => ?_⟩, ?_⟩
  · rw [hpp] at hx
    rcases mem_ins.1 hx with rfl | z
    · exact hjm
    · exact T.bd x z
  · rw [tins_get hs hph] at h1
    rw [hpp, tins_get _ hpl] at h2
    have old : ∀ i0, hs[i0]? = some h' → t.place.toList[i0]? = some j' → ∃ k, way t.mask h' k = j' ∧ ∀ k', k' < k → way t.mask h' k' ∈ (t.put j).1.place.toList := fun i0 a b => by
      obtain ⟨k, e, z⟩ := T.reach i0 h' j' a b
      exact ⟨k, e, fun k' hk' => up (z k' hk')⟩
    by_cases c : i < p
    · rw [if_pos c] at h1 h2
      exact old i h1 h2
    · rw [if_neg c] at h1 h2
      by_cases d : i = p
      · rw [if_pos d] at h1 h2
        cases h1
        cases h2
        exact ⟨K, hj, fun k' hk' => up (hb k' hk')⟩
      · rw [if_neg d] at h1 h2
        exact old (i - 1) h1 h2
  · show (t.put j).1.place.size + (t.put j).1.dummies.size = hs.length + 1
    rw [hsz, put_dm T.dm j]; exact Nat.add_zero _
theorem free_at {m : Nat} (hm : Msk m) (owner : Array (Option Nat)) (h : Int) {j : Nat} (hj : j ≤ m) (hf : oAt owner j = none) :
    ∃ K, SetTable.layClean.free m owner (SetTable.turns m) (SetTable.bits h % (m + 1)) (SetTable.bits h) = some (way m h K) ∧ oAt owner (way m h K) = none ∧ ∀ k, k < K → oAt owner (way m h k) ≠ none := by
  obtain ⟨n, hn, e⟩ := meets hm h hj
  have hw : way m h (off m (SetTable.bits h % (m + 1)) (SetTable.bits h) n) = j := by
    show (nth m (runAt m _ _) _).j = j
    rw [nth_off, itL_run]
    exact e
  obtain ⟨K, k1, k2, k3⟩ := st_least (p := fun k => oAt owner (way m h k) = none) _ (show oAt owner (way m h (off m (SetTable.bits h % (m + 1)) (SetTable.bits h) n)) = none by rw [hw]; exact hf)
  refine ⟨K, free_spec m owner (SetTable.turns m) n _ _ K (by unfold SetTable.turns; omega) k1 (fun k hk => ?_) ?_, k2, k3⟩
  · rw [Option.isNone_eq_false_iff, Option.isSome_iff_ne_none]; exact k3 k hk
  · rw [Option.isNone_iff_eq_none]; exact k2
theorem Own.next {m : Nat} (hm : Msk m) {done : List Int} {owner : Array (Option Nat)} (W : Own m done owner) (hl : done.length ≤ m) (h : Int) :
    ∃ j, SetTable.layClean.free m owner (SetTable.turns m) (SetTable.bits h % (m + 1)) (SetTable.bits h) = some j ∧ Own m (done ++ [h]) (owner.setIfInBounds j (some done.length)) := by
  obtain ⟨ps, hps, hin⟩ := W.ps
  obtain ⟨j0, h0, hn0⟩ := st_missing ps (m + 1) (by omega)
  have hj0 : oAt owner j0 = none := Classical.byContradiction fun z => hn0 (hin j0 (Nat.le_of_lt_succ h0) z)
  obtain ⟨K, e1, e2, e3⟩ := free_at hm owner h (Nat.le_of_lt_succ h0) hj0
  have hjm := way_in (m := m) (h := h) (k := K)
  have hself := oAt_set_self (some done.length) (show way m h K < owner.size by rw [W.sz]; omega)
  have mono : ∀ {i : Nat}, oAt owner i ≠ none → oAt (owner.setIfInBounds (way m h K) (some done.length)) i ≠ none := fun {i} hi => by
    by_cases c : i = way m h K
    · rw [c, hself]; simp
    · rw [oAt_set_ne _ c]; exact hi
  refine ⟨way m h K, e1, by rw [Array.size_setIfInBounds]; exact W.sz, fun j k hj e => ?_, fun k hk => ?_, way m h K :: ps, by simp [hps], fun j hj e => ?_⟩
  · by_cases c : j = way m h K
    · rw [c, hself] at e
      cases e
      exact ⟨h, K, by simp, c.symm, fun k' hk' => mono (e3 k' hk')⟩
    · rw [oAt_set_ne _ c] at e
      obtain ⟨h', K', a1, a2, a3⟩ := W.at_ j k hj e
      exact ⟨h', K', by rw [List.getElem?_append_left (List.getElem?_eq_some_iff.mp a1).1]; exact a1, a2, fun k' hk' => mono (a3 k' hk')⟩
  · rw [List.length_append, List.length_singleton] at hk
    by_cases c : k < done.length
    · obtain ⟨j, hj, e⟩ := W.all k c
      exact ⟨j, hj, by rw [oAt_set_ne _ fun z => by rw [z, e2] at e; cases e]; exact e⟩
    · exact ⟨way m h K, hjm, by rw [hself, show k = done.length by omega]⟩
  · by_cases c : j = way m h K
    · rw [c]; exact List.mem_cons_self
    · rw [oAt_set_ne _ c] at e
      exact List.mem_cons_of_mem _ (hin j hj e)
end SN
set_option Elab.async false
set_option linter.all false
set_option maxRecDepth 100000
set_option maxHeartbeats 4000000
namespace SN
open PySem PySem.Spec PyProof.Rows L2
/-- the tuple at a is the key k -/
def IsN (h : Heap) (k : NestedKey) (a : Addr) : Prop := NestedIs h k (.ref a) ∧ k.depth ≤ 8
end SN
set_option Elab.async false
set_option linter.all false
set_option maxRecDepth 100000
set_option maxHeartbeats 4000000
namespace SN
open PySem PySem.Spec PyProof.Rows L2
abbrev Lk := List (NestedKey × Addr)
def rowN (w : World) (L : Lk) : List (Int × Value) := L.map fun p => (p.1.hash w, Value.ref p.2)
structure SetN (w : World) (h : Heap) (a : Addr) (L : Lk) (es : Array (Int × Value)) (ep : Nat) (t : SetTable) : Prop where
  ob : ∃ o, h.get? a = some o ∧ o.ExactSet ∧ o.data = .set es ep t
  rows : es.toList = rowN w L
  tab : Tb t (L.map fun p => p.1.hash w)
  nd : (L.map (·.1)).Nodup
  keys : ∀ p ∈ L, IsN h p.1 p.2
  room : L.length * 5 < t.mask * 3
  led : w.params.followText "set-order" = true ∨ t.led = true
section
variable {P : Program} {w : World} {A : Around} {E : Value → Shared → Prop} {s : Shared} {a : Addr} {L : Lk} {es : Array (Int × Value)} {ep : Nat} {t : SetTable}
theorem SetN.size (R : SetN w s.heap a L es ep t) : es.size = L.length := by
  rw [← Array.length_toList, R.rows]; exact List.length_map ..
theorem SetN.entry (R : SetN w s.heap a L es ep t) {i : Nat} {p : NestedKey × Addr} (h : L[i]? = some p) : es[i]? = some (p.1.hash w, Value.ref p.2) := by
  rw [← Array.getElem?_toList, R.rows]
  unfold rowN
  rw [List.getElem?_map, h]; rfl
end
end SN
set_option Elab.async false
set_option linter.all false
set_option maxRecDepth 100000
set_option maxHeartbeats 4000000
set_option Elab.async false
set_option linter.all false
set_option maxRecDepth 100000
set_option maxHeartbeats 4000000
namespace SN
open PySem PySem.Spec PyProof.Rows L2
/-- all of a set but what its keys are -/
def Set0 (w : World) (h : Heap) (a : Addr) (L : Lk) : Prop := ∃ (o : Obj) (es : Array (Int × Value)) (ep : Nat) (t : SetTable), h.get? a = some o ∧ o.ExactSet ∧ o.data = .set es ep t ∧ es.toList = rowN w L ∧ Tb t (L.map fun p => p.1.hash w) ∧ (L.map (·.1)).Nodup ∧ L.length * 5 < t.mask * 3 ∧ (w.params.followText "set-order" = true ∨ t.led = true)
theorem SetN.bare {w : World} {h : Heap} {a : Addr} {L : Lk} {es : Array (Int × Value)} {ep : Nat} {t : SetTable} (R : SetN w h a L es ep t) : Set0 w h a L := by
  obtain ⟨⟨o, h1, h2, h3⟩, h4, h5, h6, _, h7, h8⟩ := R
  exact ⟨o, es, ep, t, h1, h2, h3, h4, h5, h6, h7, h8⟩
def SetO0 (w : World) (a : Addr) (L : Lk) : HO := .ext fun h => Set0 w h a L
abbrev Ld := List (NestedKey × Addr × V)
def entN (w : World) (L : Ld) (us : List Value) : List DictEntry := L.zipWith (fun q u => ⟨q.1.hash w, .ref q.2.1, u⟩) us
/-- all of a dict but what its keys are -/
def Dic0 (w : World) (h : Heap) (a : Addr) (L : Ld) : Prop := ∃ (o : Obj) (es : Array DictEntry) (ep : Nat) (us : List Value), h.get? a = some o ∧ o.ExactDict ∧ o.data = .dict es ep ∧ Vals (L.map (·.2.2)) us ∧ es.toList = entN w L us ∧ (L.map (·.1)).Nodup ∧ (a == sysModules) = false
def DicO0 (w : World) (a : Addr) (L : Ld) : HO := .ext fun h => Dic0 w h a L
section
variable {P : Program} {w : World} {A : Around} {E : Value → Shared → Prop} {s : Shared} {a : Addr} {L : Lk} {es : Array (Int × Value)} {ep : Nat} {t : SetTable} {x : Addr} {k : NestedKey}
theorem SetN.ty (R : SetN w s.heap a L es ep t) : s.TypeIs (.ref a) "set" := let ⟨o, ho, hc, _⟩ := R.ob; ⟨o, ho, hc.1⟩
end
end SN
set_option Elab.async false
set_option linter.all false
set_option maxRecDepth 100000
set_option maxHeartbeats 4000000
namespace EV
open PySem PySem.Spec PyProof.Rows L2
/-- a lambda: its text, the cells that it captured -/
structure LamD where
  qual : Str
  params : Arguments
  body : Expr
  scope : Scope
  cells : List (Str × Addr)
/-- data as a tree -/
inductive D where
  | non | bl (b : Bool) | int (i : Int) | str (x : Str) | opq (v : V)
  | lst (xs : List D) | tup (xs : List D) | dic (kvs : List (Key × D)) | ins (C : Addr) (fs : List (Str × D)) | exc (C : Addr) (fs : List (Str × D)) | lam (l : LamD) | nk (w : World) (b : Bool) (kvs : List (NestedKey × D))
/-- an exception object of the class at C, its dict at dx: the very object -/
def ExO (C dx : Addr) (u : HO) : Prop := ∃ (oe : Obj) (vs : Array Value), u = .frz oe (.own 0) ∧ Zc (.ref C) (some dx) oe ∧ oe.data = .fields vs
/-- the def's data of a lambda, its code at c -/
def LamFd (G : Hp) (l : LamD) (c : Addr) (fd : FuncData) : Prop := ∃ (dV doc pm ctv : Value) (binds : List (Str × Value)), fd = PySem.W.kdv_fn "<lambda>" l.qual l.params (.expr l.body) l.scope l.cells dV doc pm (.ref c) ctv ∧
  (∀ y ∈ binds, l.scope.names.lookup y.1 = some .local) ∧ ((∀ s, BindsTo s fd ⟨[], []⟩ binds) ∨ ∃ t o its n, G t = some (.frz o (.own 0)) ∧ o.data = .seq its n ∧ ∀ s : Shared, s.heap.get? t = some o → BindsTo s fd ⟨[], []⟩ binds)
mutual
/-- the value v stands for the datum d in the visible heap G -/
inductive Rp (K : PySem.W.Frag) (G : Hp) : V → D → Prop
  | non : Rp K G .non .non
  | bl (b : Bool) : Rp K G (.bl b) (.bl b)
  | int (i : Int) : Rp K G (.int i) (.int i)
  | str (x : Str) : Rp K G (.str x) (.str x)
  | opq (v : V) : Rp K G v (.opq v)
  | lst {a : Addr} {vs : List V} {ds : List D} : G a = some (.lst vs) → RpL K G vs ds → Rp K G (.ref a) (.lst ds)
  | tup {a : Addr} {vs : List V} {ds : List D} : SqT K G a vs → RpL K G vs ds → Rp K G (.ref a) (.tup ds)
  | dic {a : Addr} {od : Obj} {kvs : List (Key × V)} {kds : List (Key × D)} : G a = some (.frz od (.dK kvs)) → RpK K G kvs kds → Rp K G (.ref a) (.dic kds)
  | ins {a C dx : Addr} {fs : List (Str × V)} {ds : List (Str × D)} : G a = some (.ins C dx fs) → RpF K G fs ds → Rp K G (.ref a) (.ins C ds)
  | exc {a C dx : Addr} {u : HO} {fs : List (Str × V)} {ds : List (Str × D)} : G a = some u → ExO C dx u → G dx = some (.xd fs) → RpF K G fs ds → Rp K G (.ref a) (.exc C ds)
  | lam {f c : Addr} {l : LamD} {fd : FuncData} : G f = some (.frz { cls := .type "function", data := .func fd } (.own 0)) → G c = some (LamX.CodeO c l.qual) → LamFd G l c fd → Rp K G (.ref f) (.lam l)
  | nk {a : Addr} {φ : Heap → Prop} {w : World} {b : Bool} {kvs : List (NestedKey × D)} : G a = some (.ext φ) → Rp K G (.ref a) (.nk w b kvs)
inductive RpL (K : PySem.W.Frag) (G : Hp) : List V → List D → Prop
  | nil : RpL K G [] []
  | cons {v : V} {vs : List V} {d : D} {ds : List D} : Rp K G v d → RpL K G vs ds → RpL K G (v :: vs) (d :: ds)
inductive RpK (K : PySem.W.Frag) (G : Hp) : List (Key × V) → List (Key × D) → Prop
  | nil : RpK K G [] []
  | cons {k : Key} {v : V} {vs : List (Key × V)} {d : D} {ds : List (Key × D)} : Rp K G v d → RpK K G vs ds → RpK K G ((k, v) :: vs) ((k, d) :: ds)
inductive RpF (K : PySem.W.Frag) (G : Hp) : List (Str × V) → List (Str × D) → Prop
  | nil : RpF K G [] []
  | cons {k : Str} {v : V} {vs : List (Str × V)} {d : D} {ds : List (Str × D)} : Rp K G v d → RpF K G vs ds → RpF K G ((k, v) :: vs) ((k, d) :: ds)
end
def Sub (G H : Hp) : Prop := ∀ a o, G a = some o → H a = some o
theorem Sub.refl (G : Hp) : Sub G G := fun _ _ h => h
theorem Sub.trans {G H I : Hp} (a : Sub G H) (b : Sub H I) : Sub G I := fun x o h => b x o (a x o h)
theorem Sub.rd {G H : Hp} (e : Sub G H) {a : Addr} {u : HO} (h : Rd G a u) : Rd H a u := by
  rcases h with h | ⟨o, h⟩
  · exact .inl (e _ _ h)
  · exact .inr ⟨o, e _ _ h⟩
theorem Sub.sqL {K : PySem.W.Frag} {G H : Hp} (e : Sub G H) {a : Addr} {xs : List V} (h : SqL K G a xs) : SqL K H a xs := by
  rcases h with h | h
  · exact .inl (e.rd h)
  · exact .inr h
theorem Sub.lstL {K : PySem.W.Frag} {G H : Hp} (e : Sub G H) {a : Addr} {xs : List V} (h : G a = some (.lst xs)) : SqL K H a xs := .inl (.inl (e _ _ h))
theorem Sub.sqT {K : PySem.W.Frag} {G H : Hp} (e : Sub G H) {a : Addr} {xs : List V} (h : SqT K G a xs) : SqT K H a xs := by
  rcases h with h | h
  · exact .inl (e.rd h)
  · exact .inr h
theorem LamFd.mono {G G' : Hp} (e : Sub G G') {l : LamD} {c : Addr} {fd : FuncData} (h : LamFd G l c fd) : LamFd G' l c fd := by
  obtain ⟨dV, doc, pm, ctv, bs, h1, h2, h3⟩ := h
  refine ⟨dV, doc, pm, ctv, bs, h1, h2, ?_⟩
  rcases h3 with h3 | ⟨t, o, its, n, h4, h6, h5⟩
  · exact .inl h3
  · exact .inr ⟨t, o, its, n, e _ _ h4, h6, h5⟩
section
variable {K : PySem.W.Frag} {G G' : Hp}
mutual
theorem Rp.mono (e : Sub G G') : ∀ {d : D} {v : V}, Rp K G v d → Rp K G' v d
  | .non, _, .non => .non
  | .bl _, _, .bl b => .bl b
  | .int _, _, .int i => .int i
  | .str _, _, .str x => .str x
  | .opq _, _, .opq v => .opq v
  | .lst _, _, .lst h r => .lst (e _ _ h) (RpL.mono e r)
  | .tup _, _, .tup h r => .tup (e.sqT h) (RpL.mono e r)
  | .dic _, _, .dic h r => .dic (e _ _ h) (RpK.mono e r)
  | .ins _ _, _, .ins h r => .ins (e _ _ h) (RpF.mono e r)
  | .exc _ _, _, .exc h x q r => .exc (e _ _ h) x (e _ _ q) (RpF.mono e r)
  | .lam _, _, .lam h q r => .lam (e _ _ h) (e _ _ q) (r.mono e)
  | .nk _ _ _, _, .nk h => .nk (e _ _ h)
theorem RpL.mono (e : Sub G G') : ∀ {ds : List D} {vs : List V}, RpL K G vs ds → RpL K G' vs ds
  | [], _, .nil => .nil
  | _ :: _, _, .cons h r => .cons (Rp.mono e h) (RpL.mono e r)
theorem RpK.mono (e : Sub G G') : ∀ {ds : List (Key × D)} {vs : List (Key × V)}, RpK K G vs ds → RpK K G' vs ds
  | [], _, .nil => .nil
  | _ :: _, _, .cons h r => .cons (Rp.mono e h) (RpK.mono e r)
theorem RpF.mono (e : Sub G G') : ∀ {ds : List (Str × D)} {vs : List (Str × V)}, RpF K G vs ds → RpF K G' vs ds
  | [], _, .nil => .nil
  | _ :: _, _, .cons h r => .cons (Rp.mono e h) (RpF.mono e r)
end
theorem RpL.length : ∀ {vs : List V} {ds : List D}, RpL K G vs ds → vs.length = ds.length
  | _, _, .nil => rfl
  | _, _, .cons _ r => congrArg (· + 1) (RpL.length r)
theorem RpL.get : ∀ {vs : List V} {ds : List D} {i : Nat} {d : D}, RpL K G vs ds → ds[i]? = some d → ∃ v, vs[i]? = some v ∧ Rp K G v d
  | _, _, _, _, .nil, e => by simp at e
  | _, _, 0, _, .cons r _, e => by simp at e; subst e; exact ⟨_, rfl, r⟩
  | _, _, i + 1, d, .cons _ t, e => by
    obtain ⟨u, h1, h2⟩ := RpL.get (i := i) (d := d) t (by simpa using e)
    exact ⟨u, by simpa using h1, h2⟩
theorem RpL.append : ∀ {xs ys : List V} {us ws : List D}, RpL K G xs us → RpL K G ys ws → RpL K G (xs ++ ys) (us ++ ws)
  | _, _, _, _, .nil, s => s
  | _, _, _, _, .cons r t, s => .cons r (RpL.append t s)
theorem RpL.take : ∀ {xs : List V} {us : List D} (n : Nat), RpL K G xs us → RpL K G (xs.take n) (us.take n)
  | _, _, 0, _ => .nil
  | _, _, _ + 1, .nil => .nil
  | _, _, n + 1, .cons r t => .cons r (RpL.take n t)
theorem RpL.drop : ∀ {xs : List V} {us : List D} (n : Nat), RpL K G xs us → RpL K G (xs.drop n) (us.drop n)
  | _, _, 0, r => r
  | _, _, _ + 1, .nil => .nil
  | _, _, n + 1, .cons _ t => RpL.drop n t
theorem RpL.set {x : V} {u : D} (r : Rp K G x u) : ∀ {xs : List V} {us : List D} (i : Nat), RpL K G xs us → RpL K G (xs.set i x) (us.set i u)
  | _, _, _, .nil => .nil
  | _, _, 0, .cons _ t => .cons r t
  | _, _, i + 1, .cons q t => .cons q (RpL.set r i t)
end
mutual
def kOf : D → Option NestedKey
  | .non => some .none
  | .bl b => some (.num (if b = true then 1 else 0))
  | .int i => some (.num i)
  | .str x => some (.text x)
  | .tup xs => (kOfs xs).map .tup
  | _ => none
def kOfs : List D → Option (List NestedKey)
  | [] => some []
  | d :: ds => match kOf d, kOfs ds with
    | some k, some ks => some (k :: ks)
    | _, _ => none
end
/-- the object at a is the key k -/
def KeyG (K : PySem.W.Frag) (G : Hp) (k : NestedKey) (a : Addr) : Prop := k.depth ≤ 8 ∧ ∃ d, kOf d = some k ∧ Rp K G (.ref a) d
theorem KeyG.mono {K : PySem.W.Frag} {G G' : Hp} {k : NestedKey} {a : Addr} (e : Sub G G') (h : KeyG K G k a) : KeyG K G' k a := ⟨h.1, let ⟨d, x, r⟩ := h.2; ⟨d, x, r.mono e⟩⟩
inductive RpN (K : PySem.W.Frag) (G : Hp) : SN.Ld → List (NestedKey × D) → Prop
  | nil : RpN K G [] []
  | cons {k : NestedKey} {a : Addr} {v : V} {d : D} {L : SN.Ld} {ds : List (NestedKey × D)} : KeyG K G k a → Rp K G v d → RpN K G L ds → RpN K G ((k, a, v) :: L) ((k, d) :: ds)
theorem RpN.mono {K : PySem.W.Frag} {G G' : Hp} (e : Sub G G') : ∀ {L : SN.Ld} {ds : List (NestedKey × D)}, RpN K G L ds → RpN K G' L ds
  | _, _, .nil => .nil
  | _, _, .cons h r t => .cons (h.mono e) (r.mono e) (t.mono e)
/-- bx: the box, its list, the tables; amb: what is visible all along -/
structure Bo where
  bx : Option (Addr × Addr × List (Addr × Str))
  amb : Hp
def bo0 : Bo := ⟨none, fun _ => none⟩
def boB (b l : Addr) (T : List (Addr × Str)) : Bo := ⟨some (b, l, T), fun _ => none⟩
/-- what is hidden and changes on its own -/
def Hid (B : Bo) (a : Addr) : Prop := ∃ b l T, B.bx = some (b, l, T) ∧ (a = b ∨ ∃ p ∈ T, a = p.1)
/-- the tables: their code objects are visible -/
def TabG (T : List (Addr × Str)) (G H : Hp) : Prop := ∀ p ∈ T, ∃ ps : Array Value, H p.1 = some (.tbl ps) ∧ TriplesOk ps.toList ∧ ∀ (pos : Pos) (cv : Value), codeAmong pos ps.toList = some cv → ∃ c, cv = .ref c ∧ G c = some (LamX.CodeO c p.2)
theorem TabG.tabs {T : List (Addr × Str)} {G H : Hp} (s : Sub G H) (h : TabG T G H) : LamX.Tabs T H := fun p hp => by
  obtain ⟨ps, a, b, c⟩ := h p hp
  exact ⟨ps, a, b, fun pos cv e => by obtain ⟨x, e1, e2⟩ := c pos cv e; exact ⟨x, e1, s _ _ e2⟩⟩
structure Bx (K : PySem.W.Frag) (G H : Hp) (b l : Addr) (T : List (Addr × Str)) : Prop where
  hid : G b = none
  has : ∃ (ns : List Int) (i r m c : Int), H b = some (.lst [.ref l, .int i, .int r, .int m, .int c]) ∧ SqL K G l (ns.map V.int) ∧ 0 ≤ i ∧ 0 ≤ r ∧ 0 ≤ m ∧ m < 2147483587 ∧ 0 ≤ c
  tab : TabG T G H
  tv : ∀ p ∈ T, G p.1 = none
/-- objects that may change: their contents, by address -/
abbrev Ow := Addr → Option D
def oset (O : Ow) (p : Addr) (d : D) : Ow := fun q => if q = p then some d else O q
def odel (O : Ow) (p : Addr) : Ow := fun q => if q = p then none else O q
theorem oset_same {O : Ow} {p : Addr} {d : D} : oset O p d p = some d := by unfold oset; rw [if_pos rfl]
theorem oset_ne {O : Ow} {p q : Addr} {d : D} (h : q ≠ p) : oset O p d q = O q := by unfold oset; rw [if_neg h]
theorem odel_same {O : Ow} {p : Addr} : odel O p p = none := by unfold odel; rw [if_pos rfl]
theorem odel_ne {O : Ow} {p q : Addr} (h : q ≠ p) : odel O p q = O q := by unfold odel; rw [if_neg h]
theorem oset_oset {O : Ow} {p : Addr} {d e : D} : oset (oset O p d) p e = oset O p e := by funext q; unfold oset; split <;> rfl
theorem odel_oset {O : Ow} {p : Addr} {d : D} (h : O p = none) : odel (oset O p d) p = O := by
  funext q; unfold oset odel
  by_cases e : q = p
  · rw [if_pos e, e, h]
  · rw [if_neg e]; exact if_neg e
/-- an object that may change: its items are visible, itself is not -/
def RpO (K : PySem.W.Frag) (G H : Hp) (p : Addr) : D → Prop
  | .lst ds => ∃ vs, H p = some (.lst vs) ∧ RpL K G vs ds
  | .dic ds => ∃ vs, H p = some (.dK vs) ∧ RpK K G vs ds
  | .ins C ds => ∃ dx fs, H p = some (.ins C dx fs) ∧ RpF K G fs ds
  | .nk w true kvs => ∃ L : SN.Lk, H p = some (SN.SetO0 w p L) ∧ (L.map (·.1)).Perm (kvs.map (·.1)) ∧ ∀ q ∈ L, KeyG K G q.1 q.2
  | .nk w false kvs => ∃ L : SN.Ld, H p = some (SN.DicO0 w p L) ∧ RpN K G L kvs
  | _ => False
theorem RpO.some_of {K : PySem.W.Frag} {G H : Hp} {p : Addr} : ∀ {d : D}, RpO K G H p d → ∃ o, H p = some o
  | .lst _, ⟨_, h, _⟩ => ⟨_, h⟩
  | .dic _, ⟨_, h, _⟩ => ⟨_, h⟩
  | .ins _ _, ⟨_, _, h, _⟩ => ⟨_, h⟩
  | .nk _ true _, ⟨_, h, _⟩ => ⟨_, h⟩
  | .nk _ false _, ⟨_, h, _⟩ => ⟨_, h⟩
theorem RpO.mono {K : PySem.W.Frag} {G H G' H' : Hp} {p : Addr} (s : Sub G G') (k : ∀ o, H p = some o → H' p = some o) : ∀ {d : D}, RpO K G H p d → RpO K G' H' p d
  | .lst _, ⟨vs, h, r⟩ => ⟨vs, k _ h, r.mono s⟩
  | .dic _, ⟨vs, h, r⟩ => ⟨vs, k _ h, r.mono s⟩
  | .ins _ _, ⟨dx, fs, h, r⟩ => ⟨dx, fs, k _ h, r.mono s⟩
  | .nk _ true _, ⟨L, h, pm, r⟩ => ⟨L, k _ h, pm, fun q hq => (r q hq).mono s⟩
  | .nk _ false _, ⟨L, h, r⟩ => ⟨L, k _ h, r.mono s⟩
/-- what p holds, as a visible thing -/
theorem RpO.rp {K : PySem.W.Frag} {G H : Hp} {p : Addr} {o : HO} (e : H p = some o) (n : G p = none) : ∀ {d : D}, (∀ ks, d ≠ .dic ks) → RpO K G H p d → Rp K (upd G p o) (.ref p) d := fun {d} nd r => by
  have s : Sub G (upd G p o) := fun a u h => by rw [upd_ne (fun z => by rw [z, n] at h; cases h)]; exact h
  cases d <;> first
    | exact r.elim
    | exact absurd rfl (nd _)
    | (rename_i w b kvs; cases b <;> (obtain ⟨L, h, _⟩ := r; rw [e] at h; cases h; exact .nk upd_same))
    | (obtain ⟨vs, h, r⟩ := r; rw [e] at h; cases h; exact .lst upd_same (r.mono s))
    | (obtain ⟨dx, fs, h, r⟩ := r; rw [e] at h; cases h; exact .ins upd_same (r.mono s))
structure Good (K : PySem.W.Frag) (B : Bo) (O : Ow) (G H : Hp) : Prop where
  sub : Sub G H
  box : ∀ b l T, B.bx = some (b, l, T) → Bx K G H b l T
  amb : Sub B.amb G
  own : ∀ p d, O p = some d → G p = none ∧ ¬ Hid B p ∧ RpO K G H p d
structure Step (K : PySem.W.Frag) (B : Bo) (O : Ow) (G H : Hp) (O' : Ow) (G' H' : Hp) : Prop where
  grow : Sub G G'
  good : Good K B O' G' H'
  keep : ∀ a o, H a = some o → ¬ Hid B a → O a = none → H' a = some o
  hid : ∀ a o, H a = some o → G a = none → O a = none → G' a = none ∧ O' a = none
  still : ∀ a, H a ≠ none → H' a ≠ none
theorem upd_still {H : Hp} {p : Addr} {o : HO} (a : Addr) (h : H a ≠ none) : upd H p o a ≠ none := by
  unfold upd
  split
  · exact Option.some_ne_none _
  · exact h
section
variable {K : PySem.W.Frag} {B : Bo} {O O' O'' : Ow} {G H G' H' G'' H'' : Hp}
theorem Good.vis {a : Addr} {o : HO} (g : Good K B O G H) (h : G a = some o) : O a = none := by
  cases e : O a with
  | none => rfl
  | some d => have := (g.own a d e).1; rw [h] at this; cases this
theorem Good.fresh {a : Addr} (g : Good K B O G H) (h : H a = none) : O a = none := by
  cases e : O a with
  | none => rfl
  | some d => obtain ⟨o, z⟩ := (g.own a d e).2.2.some_of; rw [h] at z; cases z
theorem Good.freshG {a : Addr} (g : Good K B O G H) (h : H a = none) : G a = none := by
  cases e : G a with
  | none => rfl
  | some d => rw [g.sub _ _ e] at h; cases h
theorem Good.hidH {a : Addr} (g : Good K B O G H) (h : Hid B a) : ∃ o, H a = some o ∧ (∀ φ, o ≠ .ext φ) := by
  obtain ⟨b, l, T, e, h⟩ := h
  have bx := g.box b l T e
  rcases h with rfl | ⟨p, hp, rfl⟩
  · obtain ⟨ns, i, r, m, c, h2, _⟩ := bx.has
    exact ⟨_, h2, fun φ z => by cases z⟩
  · obtain ⟨ps, h2, _⟩ := bx.tab p hp
    exact ⟨_, h2, fun φ z => by cases z⟩
theorem Good.hidG {a : Addr} (g : Good K B O G H) (h : Hid B a) : G a = none := by
  obtain ⟨b, l, T, e, h⟩ := h
  have bx := g.box b l T e
  rcases h with rfl | ⟨p, hp, rfl⟩
  · exact bx.hid
  · exact bx.tv p hp
theorem Good.hidO {a : Addr} (g : Good K B O G H) (h : Hid B a) : O a = none := by
  cases q : O a with
  | none => rfl
  | some d => exact absurd h (g.own a d q).2.1
theorem Good.nhid {a : Addr} (g : Good K B O G H) (h : H a = none) : ¬ Hid B a := fun z => by
  obtain ⟨o, e, _⟩ := g.hidH z
  rw [h] at e; cases e
theorem Step.refl (g : Good K B O G H) : Step K B O G H O G H := ⟨Sub.refl G, g, fun _ _ h _ _ => h, fun _ _ _ h n => ⟨h, n⟩, fun _ h => h⟩
theorem Step.visO {a : Addr} {o : HO} (s : Step K B O G H O' G' H') (h : H a = some o) (n : O a = none) : O' a = none := by
  cases e : G a with
  | none => exact (s.hid a o h e n).2
  | some u => exact s.good.vis (s.grow _ _ e)
theorem Step.trans (s : Step K B O G H O' G' H') (t : Step K B O' G' H' O'' G'' H'') : Step K B O G H O'' G'' H'' := by
  refine ⟨s.grow.trans t.grow, t.good, fun a o h n z => t.keep a o (s.keep a o h n z) n (s.visO h z), fun a o h g z => ?_, fun a h => t.still a (s.still a h)⟩
  by_cases hb : Hid B a
  · exact ⟨t.good.hidG hb, t.good.hidO hb⟩
  · have q := s.hid a o h g z
    exact t.hid a o (s.keep a o h hb z) q.1 q.2
/-- the box stays: what is hidden is as it was, and so is every code object -/
theorem Bx.step {b l : Addr} {T : List (Addr × Str)} (h : Bx K G H b l T) (s : Sub G G') (n : ∀ a, (a = b ∨ ∃ p ∈ T, a = p.1) → G' a = none) (k : ∀ a o, (a = b ∨ ∃ p ∈ T, a = p.1) → H a = some o → H' a = some o) : Bx K G' H' b l T := by
  obtain ⟨h1, ⟨ns, i, r, m, c, h2, h3, h4⟩, h5, h6⟩ := h
  refine ⟨n b (.inl rfl), ⟨ns, i, r, m, c, k _ _ (.inl rfl) h2, s.sqL h3, h4⟩, fun p hp => ?_, fun p hp => n p.1 (.inr ⟨p, hp, rfl⟩)⟩
  obtain ⟨ps, a1, a2, a3⟩ := h5 p hp
  refine ⟨ps, k _ _ (.inr ⟨p, hp, rfl⟩) a1, a2, fun pos cv hc => ?_⟩
  obtain ⟨c, e1, e2⟩ := a3 pos cv hc
  exact ⟨c, e1, s _ _ e2⟩
theorem Bx.there {b l : Addr} {T : List (Addr × Str)} (h : Bx K G H b l T) : ∃ o, H b = some o := by
  obtain ⟨h1, ⟨ns, i, r, m, c, h2, _⟩, _⟩ := h
  exact ⟨_, h2⟩
/-- a new visible object -/
theorem Step.new (g : Good K B O G H) {p : Addr} {o : HO} (n : H p = none) : Step K B O G H O (upd G p o) (upd H p o) := by
  have n0 : ∀ q u, H q = some u → q ≠ p := fun q u h e => by rw [e, n] at h; cases h
  have n1 : ∀ q u, G q = some u → q ≠ p := fun q u h => n0 q u (g.sub q u h)
  have sG : Sub G (upd G p o) := fun a u h => by rw [upd_ne (n1 a u h)]; exact h
  have sH : Sub H (upd H p o) := fun a u h => by rw [upd_ne (n0 a u h)]; exact h
  refine ⟨sG, ⟨fun a u h => ?_, fun b l T e => ?_, g.amb.trans sG, fun q d e => ?_⟩, fun a u h _ _ => sH _ _ h, fun a u h z nO => ⟨?_, nO⟩, upd_still⟩
  · by_cases e : a = p
    · subst e; rw [upd_same] at h ⊢; exact h
    · rw [upd_ne e] at h ⊢; exact g.sub a u h
  · refine (g.box b l T e).step sG (fun a ha => ?_) fun a o _ h => sH _ _ h
    have ha : Hid B a := ⟨b, l, T, e, ha⟩
    obtain ⟨u, hu, _⟩ := g.hidH ha
    rw [upd_ne (n0 _ _ hu)]; exact g.hidG ha
  · obtain ⟨a, b, c⟩ := g.own q d e
    obtain ⟨u, hu⟩ := c.some_of
    exact ⟨by rw [upd_ne (n0 _ _ hu)]; exact a, b, c.mono sG fun u h => sH _ _ h⟩
  · rw [upd_ne (n0 a u h)]; exact z
/-- a new hidden object -/
theorem Step.newH (g : Good K B O G H) {p : Addr} {o : HO} (n : H p = none) : Step K B O G H O G (upd H p o) := by
  have n0 : ∀ q u, H q = some u → q ≠ p := fun q u h e => by rw [e, n] at h; cases h
  have sH : Sub H (upd H p o) := fun a u h => by rw [upd_ne (n0 a u h)]; exact h
  refine ⟨Sub.refl _, ⟨g.sub.trans sH, fun b l T e => ?_, g.amb, fun q d e => ?_⟩, fun a u h _ _ => sH _ _ h, fun a u h z nO => ⟨z, nO⟩, upd_still⟩
  · exact (g.box b l T e).step (Sub.refl _) (fun a ha => g.hidG ⟨b, l, T, e, ha⟩) fun a o _ h => sH _ _ h
  · obtain ⟨a, b, c⟩ := g.own q d e
    exact ⟨a, b, c.mono (Sub.refl _) fun u h => sH _ _ h⟩
/-- what p holds changes, p being one's own or hidden and new -/
theorem Step.put (g : Good K B O G H) {p : Addr} {o : HO} {d : D} (nG : G p = none) (nb : ¬ Hid B p) (r : RpO K G (upd H p o) p d) (z : O p ≠ none ∨ H p = none) : Step K B O G H (oset O p d) G (upd H p o) := by
  have k : ∀ q, q ≠ p → ∀ u, H q = some u → upd H p o q = some u := fun q n u h => by rw [upd_ne n]; exact h
  have np : ∀ a u, H a = some u → O a = none → a ≠ p := fun a u h n e => by
    subst e
    rcases z with z | z
    · exact z n
    · rw [z] at h; cases h
  refine ⟨Sub.refl _, ⟨fun a u h => k a (fun e => by rw [e, nG] at h; cases h) u (g.sub _ _ h), fun b l T e => ?_, g.amb, fun q d' e => ?_⟩, fun a u h _ n => k a (np a u h n) u h, fun a u h zz n => ⟨zz, by rw [oset_ne (np a u h n)]; exact n⟩, upd_still⟩
  · refine (g.box b l T e).step (Sub.refl _) (fun a ha => g.hidG ⟨b, l, T, e, ha⟩) fun a o ha h => k a (fun z => ?_) o h
    subst z; exact nb ⟨b, l, T, e, ha⟩
  · by_cases hq : q = p
    · subst hq; rw [oset_same] at e; cases e; exact ⟨nG, nb, r⟩
    · rw [oset_ne hq] at e
      obtain ⟨a, b, c⟩ := g.own q d' e
      exact ⟨a, b, c.mono (Sub.refl _) (k q hq)⟩
/-- what is one's own is shown, and changes no more -/
theorem Step.freeze (g : Good K B O G H) {p : Addr} {d : D} (nd : ∀ ks, d ≠ .dic ks) (e : O p = some d) : ∃ G', Step K B O G H (odel O p) G' H ∧ Rp K G' (.ref p) d := by
  obtain ⟨nG, nb, r⟩ := g.own p d e
  obtain ⟨o, ho⟩ := r.some_of
  have sG : Sub G (upd G p o) := fun a u h => by rw [upd_ne (fun z => by rw [z, nG] at h; cases h)]; exact h
  refine ⟨upd G p o, ⟨sG, ⟨fun a u h => ?_, fun b l T eb => ?_, g.amb.trans sG, fun q d' eq => ?_⟩, fun a u h _ _ => h, fun a u h z n => ?_, fun _ h => h⟩, r.rp ho nG nd⟩
  · by_cases z : a = p
    · subst z; rw [upd_same] at h; cases h; exact ho
    · rw [upd_ne z] at h; exact g.sub _ _ h
  · refine (g.box b l T eb).step sG (fun a ha => ?_) fun a o _ h => h
    have ha : Hid B a := ⟨b, l, T, eb, ha⟩
    rw [upd_ne (fun z => nb (by rw [← z]; exact ha))]; exact g.hidG ha
  · by_cases z : q = p
    · subst z; rw [odel_same] at eq; cases eq
    · rw [odel_ne z] at eq
      obtain ⟨a, b, c⟩ := g.own q d' eq
      exact ⟨by rw [upd_ne z]; exact a, b, c.mono sG fun _ h => h⟩
  · have np : a ≠ p := fun q => by subst q; rw [e] at n; cases n
    exact ⟨by rw [upd_ne np]; exact z, by rw [odel_ne np]; exact n⟩
/-- a dict is shown: from then on its object stays -/
theorem Step.freezeD (g : Good K B O G H) {p : Addr} {kds : List (Key × D)} (e : O p = some (.dic kds)) : ∃ kvs, H p = some (.dK kvs) ∧ ∀ od, ∃ G', Step K B O G H (odel O p) G' (upd H p (.frz od (.dK kvs))) ∧ Rp K G' (.ref p) (.dic kds) := by
  obtain ⟨nG, nb, kvs, ho, r⟩ := g.own p _ e
  refine ⟨kvs, ho, fun od => ?_⟩
  have neG : ∀ a u, G a = some u → a ≠ p := fun a u h z => by rw [z, nG] at h; cases h
  have sG : Sub G (upd G p (.frz od (.dK kvs))) := fun a u h => by rw [upd_ne (neG a u h)]; exact h
  refine ⟨upd G p (.frz od (.dK kvs)), ⟨sG, ⟨fun a u h => ?_, fun b l T eb => ?_, g.amb.trans sG, fun q d' eq => ?_⟩, fun a u h _ n => ?_, fun a u h z n => ?_, upd_still⟩, .dic upd_same (r.mono sG)⟩
  · by_cases z : a = p
    · subst z; rw [upd_same] at h ⊢; exact h
    · rw [upd_ne z] at h ⊢; exact g.sub _ _ h
  · refine (g.box b l T eb).step sG (fun a ha => ?_) fun a o ha h => ?_
    · have ha : Hid B a := ⟨b, l, T, eb, ha⟩
      rw [upd_ne (fun z => nb (by rw [← z]; exact ha))]; exact g.hidG ha
    · have z : a ≠ p := fun z => by
        subst z
        exact nb ⟨b, l, T, eb, ha⟩
      rw [upd_ne z]; exact h
  · have z : q ≠ p := fun z => by subst z; rw [odel_same] at eq; cases eq
    rw [odel_ne z] at eq
    obtain ⟨a, b, c⟩ := g.own q d' eq
    exact ⟨by rw [upd_ne z]; exact a, b, c.mono sG fun u h => by rw [upd_ne z]; exact h⟩
  · have np : a ≠ p := fun q => by subst q; rw [e] at n; cases n
    rw [upd_ne np]; exact h
  · have np : a ≠ p := fun q => by subst q; rw [e] at n; cases n
    exact ⟨by rw [upd_ne np]; exact z, by rw [odel_ne np]; exact n⟩
end
end EV
set_option Elab.async false
set_option linter.all false
set_option maxRecDepth 100000
set_option maxHeartbeats 4000000
namespace EV
open PySem PySem.Spec PyProof.Rows L2
inductive Sl where
  | un | sh (d : D)
abbrev Slots := List Sl
structure RpS (K : PySem.W.Frag) (G : Hp) (σ : L2.St) (ρ : Slots) : Prop where
  len : σ.length = ρ.length
  sh : ∀ (i : Nat) (d : D), ρ[i]? = some (.sh d) → ∃ v, σ[i]? = some (some v) ∧ Rp K G v d
/-- an exception: its class, its attributes -/
abbrev Xc := Addr × List (Str × D)
abbrev QD := D → Ow → Prop
abbrev QX := Xc → Ow → Prop
abbrev DE := Slots → Ow → QD → QX → Prop
abbrev DT := Slots → Ow → (Bool → Ow → Prop) → QX → Prop
abbrev DA := Slots → Ow → (List D → Ow → Prop) → QX → Prop
def kv (K : PySem.W.Frag) (B : Bo) (O : Ow) (G H : Hp) (Q : VK) : QD := fun d O' => ∀ v G' H', Step K B O G H O' G' H' → Rp K G' v d → Q v H'
def kb (K : PySem.W.Frag) (B : Bo) (O : Ow) (G H : Hp) (Q : Bool → Hp → Prop) : Bool → Ow → Prop := fun b O' => ∀ G' H', Step K B O G H O' G' H' → Q b H'
def ka (K : PySem.W.Frag) (B : Bo) (O : Ow) (G H : Hp) (Q : List V → Hp → Prop) : List D → Ow → Prop := fun ds O' => ∀ vs G' H', Step K B O G H O' G' H' → RpL K G' vs ds → Q vs H'
def kx (K : PySem.W.Frag) (B : Bo) (O : Ow) (G H : Hp) (E : XK) : QX := fun x O' => ∀ d fs G' H', Step K B O G H O' G' H' → G' d = some (.xd fs) → RpF K G' fs x.2 → E (.ref x.1) (some d) H'
section
variable {K : PySem.W.Frag} {B : Bo} {O O' O'' : Ow} {G H G' H' : Hp}
theorem kv.step {Q : VK} {d : D} (s : Step K B O G H O' G' H') (h : kv K B O G H Q d O'') : kv K B O' G' H' Q d O'' := fun v G2 H2 t r => h v G2 H2 (s.trans t) r
theorem kb.step {Q : Bool → Hp → Prop} {d : Bool} (s : Step K B O G H O' G' H') (h : kb K B O G H Q d O'') : kb K B O' G' H' Q d O'' := fun G2 H2 t => h G2 H2 (s.trans t)
theorem ka.step {Q : List V → Hp → Prop} {d : List D} (s : Step K B O G H O' G' H') (h : ka K B O G H Q d O'') : ka K B O' G' H' Q d O'' := fun v G2 H2 t r => h v G2 H2 (s.trans t) r
theorem kx.step {E : XK} {x : Xc} (s : Step K B O G H O' G' H') (h : kx K B O G H E x O'') : kx K B O' G' H' E x O'' := fun d fs G2 H2 t a r => h d fs G2 H2 (s.trans t) a r
theorem RpS.mono {σ : L2.St} {ρ : Slots} (s : Sub G G') (r : RpS K G σ ρ) : RpS K G' σ ρ :=
  ⟨r.len, fun i d h => by obtain ⟨v, e, q⟩ := r.sh i d h; exact ⟨v, e, q.mono s⟩⟩
theorem RpS.step {σ : L2.St} {ρ : Slots} (s : Step K B O G H O' G' H') (r : RpS K G σ ρ) : RpS K G' σ ρ := r.mono s.grow
end
def up (K : PySem.W.Frag) (B : Bo) (W : L2.St → XK) (m : DE) : TE := fun σ H Q => ∃ G O ρ, Good K B O G H ∧ RpS K G σ ρ ∧ m ρ O (kv K B O G H Q) (kx K B O G H (W σ))
def upT (K : PySem.W.Frag) (B : Bo) (W : L2.St → XK) (m : DT) : TT := fun σ H Q => ∃ G O ρ, Good K B O G H ∧ RpS K G σ ρ ∧ m ρ O (kb K B O G H Q) (kx K B O G H (W σ))
def upA (K : PySem.W.Frag) (B : Bo) (W : L2.St → XK) (m : DA) : TA := fun σ H Q => ∃ G O ρ, Good K B O G H ∧ RpS K G σ ρ ∧ m ρ O (ka K B O G H Q) (kx K B O G H (W σ))
def Mo {α : Type} (m : Slots → Ow → (α → Ow → Prop) → QX → Prop) : Prop := ∀ ρ O Q Q' E E', (∀ d O, Q d O → Q' d O) → (∀ x O, E x O → E' x O) → m ρ O Q E → m ρ O Q' E'
/-- where one stands: the box, the wish of exceptions -/
structure Pl where
  B : Bo
  W : L2.St → XK
structure DPE (X : Cx) (L : Pl) (e : Expr) (m : DE) : Prop where
  mo : Mo m
  run : PE X e (up X.K L.B L.W m)
structure DPT (X : Cx) (L : Pl) (e : Expr) (m : DT) : Prop where
  mo : Mo m
  run : PT X e (upT X.K L.B L.W m)
structure DPW (X : Cx) (L : Pl) (e : Expr) (m : DT) : Prop where
  mo : Mo m
  run : PW X e (upT X.K L.B L.W m)
structure DPA (X : Cx) (L : Pl) (es : List Expr) (m : DA) : Prop where
  mo : Mo m
  run : PA X es (upA X.K L.B L.W m)
section
variable {X : Cx} {L : Pl} {e a b c : Expr} {es : List Expr} {m ma mb mc : DE} {mt mu : DT} {mA : DA} {pos p : Pos}
theorem pe_imp {t t' : TE} (h : PE X e t) (i : ∀ σ H Q, t' σ H Q → t σ H Q) : PE X e t' := ⟨fun pins s σ H Q I q => h.run pins s σ H Q I (i _ _ _ q)⟩
theorem pt_imp {t t' : TT} (h : PT X e t) (i : ∀ σ H Q, t' σ H Q → t σ H Q) : PT X e t' := ⟨fun pins s σ H Q I q => h.run pins s σ H Q I (i _ _ _ q)⟩
theorem pw_imp {t t' : TT} (h : PW X e t) (i : ∀ σ H Q, t' σ H Q → t σ H Q) : PW X e t' := ⟨fun wh pins s σ H Q I q => h.run wh pins s σ H Q I (i _ _ _ q)⟩
theorem pa_imp {t t' : TA} (h : PA X es t) (i : ∀ σ H Q, t' σ H Q → t σ H Q) : PA X es t' := ⟨fun pos pins s σ H Q I q => h.run pos pins s σ H Q I (i _ _ _ q)⟩
variable {K : PySem.W.Frag} {B : Bo} {O O1 O2 O3 : Ow} {W : L2.St → XK} {G H : Hp} {σ : L2.St} {ρ : Slots}
theorem up_of {R : VK} {P : QD} (mo : Mo m) (g : Good K B O G H) (r : RpS K G σ ρ) (h : m ρ O P (kx K B O G H (W σ)))
    (k : ∀ d v O' G' H', P d O' → Step K B O G H O' G' H' → Rp K G' v d → R v H') : up K B W m σ H R :=
  ⟨G, O, ρ, g, r, mo ρ _ _ _ _ _ (fun d O' p v G' H' s q => k d v O' G' H' p s q) (fun _ _ x => x) h⟩
theorem upT_of {R : Bool → Hp → Prop} {P : Bool → Ow → Prop} (mo : Mo mt) (g : Good K B O G H) (r : RpS K G σ ρ) (h : mt ρ O P (kx K B O G H (W σ)))
    (k : ∀ b O' G' H', P b O' → Step K B O G H O' G' H' → R b H') : upT K B W mt σ H R :=
  ⟨G, O, ρ, g, r, mo ρ _ _ _ _ _ (fun d O' p G' H' s => k d O' G' H' p s) (fun _ _ x => x) h⟩
theorem upA_of {R : List V → Hp → Prop} {P : List D → Ow → Prop} (mo : Mo mA) (g : Good K B O G H) (r : RpS K G σ ρ) (h : mA ρ O P (kx K B O G H (W σ)))
    (k : ∀ d v O' G' H', P d O' → Step K B O G H O' G' H' → RpL K G' v d → R v H') : upA K B W mA σ H R :=
  ⟨G, O, ρ, g, r, mo ρ _ _ _ _ _ (fun d O' p v G' H' s q => k d v O' G' H' p s q) (fun _ _ x => x) h⟩
/-- the wish of exceptions carried on -/
theorem mo_step {α : Type} {n : Slots → Ow → (α → Ow → Prop) → QX → Prop} {P : α → Ow → Prop} {O' O'' : Ow} {G' H' : Hp} {E : XK} (mo : Mo n) (s : Step K B O G H O' G' H') (h : n ρ O'' P (kx K B O G H E)) : n ρ O'' P (kx K B O' G' H' E) :=
  mo ρ _ _ _ _ _ (fun _ _ x => x) (fun _ _ x => x.step s) h
def dVar (i : Nat) : DE := fun ρ O Q _ => match ρ[i]? with
  | some (.sh d) => Q d O
  | _ => False
theorem mo_var (i : Nat) : Mo (dVar i) := fun ρ O Q Q' E E' h _ x => by
  unfold dVar at x ⊢
  split <;> simp_all
theorem d_var {i : Nat} {x : Str} (hN : X.N[i]? = some x) (hv : Vis X.env.scope x) (hd : (x == ("__debug__" : Str)) = false) (hcd : (x == ("__classdict__" : Str)) = false) : DPE X L (.Name x pos) (dVar i) := by
  refine ⟨mo_var i, pe_imp (pe_var hN hv hd hcd) fun σ H Q ⟨G, O, ρ, g, r, h⟩ => ?_⟩
  unfold dVar at h
  split at h
  · rename_i d e
    obtain ⟨v, ev, q⟩ := r.sh i d e
    exact ⟨v, ev, h v G H (Step.refl g) q⟩
  · exact h.elim
/-- the handle in a slot, from now on shown -/
def dVarF (i : Nat) : DE := fun ρ O Q _ => match ρ[i]? with
  | some (.sh (.opq (.ref p))) => ∃ d, O p = some d ∧ Q d (odel O p)
  | _ => False
theorem mo_varF (i : Nat) : Mo (dVarF i) := fun ρ O Q Q' E E' h _ x => by
  unfold dVarF at x ⊢
  split at x
  · obtain ⟨d, e, q⟩ := x
    exact ⟨d, e, h _ _ q⟩
  · exact x
/-- a dict may be locked where one stands -/
theorem pe_lk {t : TE} (h : PE X e t) : PE X e (fun σ H Q => t σ H fun v H1 => Q v H1 ∨ ∃ p u, v = .ref p ∧ H1 p = some u ∧ Mut (some u) ∧ ∀ od, Q v (upd H1 p (.frz od u))) := by
  refine ⟨fun pins s σ H Q I hw => wpAny_mono (h.run pins s σ H _ I hw) (fun v s1 ⟨x, H1, I1, r, q⟩ => ?_) fun _ _ z => z⟩
  rcases q with q | ⟨p, u, rfl, hp, mu, q⟩
  · exact ⟨x, H1, I1, r, q⟩
  · obtain ⟨od, I2⟩ := I1.lock hp mu
    exact ⟨.ref p, _, I2, r, q od⟩
theorem d_varF {i : Nat} {x : Str} (hN : X.N[i]? = some x) (hv : Vis X.env.scope x) (hd : (x == ("__debug__" : Str)) = false) (hcd : (x == ("__classdict__" : Str)) = false) : DPE X L (.Name x pos) (dVarF i) := by
  refine ⟨mo_varF i, pe_imp (pe_lk (pe_var hN hv hd hcd)) fun σ H Q ⟨G, O, ρ, g, r, h⟩ => ?_⟩
  unfold dVarF at h
  split at h
  · rename_i p e
    obtain ⟨d, ed, h⟩ := h
    obtain ⟨v, ev, q⟩ := r.sh i _ e
    cases q
    by_cases nd : ∀ ks, d ≠ .dic ks
    · obtain ⟨G', s, rp⟩ := Step.freeze g nd ed
      exact ⟨_, ev, .inl (h _ G' H s rp)⟩
    · have : ∃ ks, d = .dic ks := Classical.byContradiction fun z => nd fun ks e => z ⟨ks, e⟩
      obtain ⟨ks, rfl⟩ := this
      obtain ⟨kvs, hp, f⟩ := Step.freezeD g ed
      refine ⟨_, ev, .inr ⟨p, _, rfl, hp, trivial, fun od => ?_⟩⟩
      obtain ⟨G', s, rp⟩ := f od
      exact h _ G' _ s rp
  · exact h.elim
abbrev dC (d : D) : DE := fun _ O Q _ => Q d O
theorem mo_c (d : D) : Mo (dC d) := fun _ _ _ _ _ _ h _ x => h _ _ x
theorem d_c {v : V} {d : D} (h : PE X e (tC v)) (r : ∀ G, Rp X.K G v d) : DPE X L e (dC d) :=
  ⟨mo_c d, pe_imp h fun σ H Q ⟨G, O, ρ, g, _, q⟩ => q v G H (Step.refl g) (r G)⟩
theorem d_int {i j} : DPE X L (.Constant (.int i) j pos) (dC (.int i)) := d_c pe_int fun _ => .int i
theorem d_bl {i j} : DPE X L (.Constant (.bool i) j pos) (dC (.bl i)) := d_c pe_bl fun _ => .bl i
theorem d_str {i j} : DPE X L (.Constant (.str i) j pos) (dC (.str i)) := d_c pe_str fun _ => .str i
theorem d_non {j} : DPE X L (.Constant .none j pos) (dC .non) := d_c pe_non fun _ => .non
abbrev D2 := Ow → D → D → (D → Prop) → Prop
abbrev pu (o : D → D → (D → Prop) → Prop) : D2 := fun _ => o
def MoO (o : D2) : Prop := ∀ O x y Q Q', (∀ d, Q d → Q' d) → o O x y Q → o O x y Q'
def RunO (K : PySem.W.Frag) (B : Bo) (r : R2) (o : D2) : Prop := ∀ O G H x y a b Q, Good K B O G H → Rp K G x a → Rp K G y b → o O a b (fun d => kv K B O G H Q d O) → r x y H Q
structure OpD (X : Cx) (B : Bo) (f : Value → Value → Sem Value) (o : D2) : Prop where
  mo : MoO o
  run : ∃ r, OpR X f r ∧ RunO X.K B r o
abbrev dOp (o : D2) (ma mb : DE) : DE := fun ρ O Q E => ma ρ O (fun x O1 => mb ρ O1 (fun y O2 => o O2 x y fun d => Q d O2) E) E
theorem mo_op {o : D2} (ho : MoO o) (ha : Mo ma) (hb : Mo mb) : Mo (dOp o ma mb) := fun ρ O Q Q' E E' h hx x =>
  ha ρ _ _ _ _ _ (fun _ _ q => hb ρ _ _ _ _ _ (fun _ _ z => ho _ _ _ _ _ (fun _ => h _ _) z) hx q) hx x
theorem run_op {r : R2} {o : D2} {B : Bo} {Q : VK} (hr : RunO K B r o) (mo : MoO o) (ha : Mo ma) (hb : Mo mb)
    (h : up K B W (dOp o ma mb) σ H Q) : tOp r (up K B W ma) (up K B W mb) σ H Q := by
  obtain ⟨G, O, ρ, g, rs, q⟩ := h
  refine up_of ha g rs q fun x vx O1 G1 H1 q1 s1 r1 => ?_
  refine up_of hb s1.good (rs.step s1) (mo_step hb s1 q1) fun y vy O2 G2 H2 q2 s2 r2 => ?_
  exact hr O2 G2 H2 vx vy x y Q s2.good (r1.mono s2.grow) r2 (mo _ _ _ _ _ (fun _ z => z.step (s1.trans s2)) q2)
theorem d_op {op : Operator} {o : D2} (ho : OpD X L.B (binaryOp op) o) (ha : DPE X L a ma) (hb : DPE X L b mb) : DPE X L (.BinOp a op b pos) (dOp o ma mb) := by
  obtain ⟨mo, r, hr, h⟩ := ho
  exact ⟨mo_op mo ha.mo hb.mo, pe_imp (pe_op hr ha.run hb.run) fun σ H Q q => run_op h mo ha.mo hb.mo q⟩
theorem d_cmp {op : CmpOp} {o : D2} (ho : OpD X L.B (compareOp op) o) (ha : DPE X L a ma) (hb : DPE X L b mb) (hm : behindInMarks op b = false) : DPE X L (.Compare a [op] [b] pos) (dOp o ma mb) := by
  obtain ⟨mo, r, hr, h⟩ := ho
  exact ⟨mo_op mo ha.mo hb.mo, pe_imp (pe_cmpR hr ha.run hb.run hm) fun σ H Q q => run_op h mo ha.mo hb.mo q⟩
/-- by a bool -/
def bc (c : Bool) (A B : Prop) : Prop := match c with
  | true => A
  | false => B
/-- a bool -/
abbrev bD : D → (Bool → Prop) → Prop
  | .bl b, Q => Q b
  | _, _ => False
theorem bD_mo {d : D} {Q Q' : Bool → Prop} (h : ∀ b, Q b → Q' b) (z : bD d Q) : bD d Q' := by
  cases d <;> first | exact h _ z | exact z
theorem bD_run {d : D} {v : V} {Q : Bool → Prop} (r : Rp K G v d) (z : bD d Q) : ∃ k, v = .bl k ∧ Q k := by
  cases r <;> first | exact ⟨_, rfl, z⟩ | exact z.elim
/-- a op b op' c -/
abbrev dChain (o o' : D2) (ma mb mc : DE) : DE := fun ρ O Q E => ma ρ O (fun x O1 => mb ρ O1 (fun y O2 => o O2 x y fun z => bD z fun k => bc k (mc ρ O2 (fun w O3 => o' O3 y w fun d => Q d O3) E) (Q (.bl false) O2)) E) E
theorem mo_chain {o o' : D2} (ho : MoO o) (ho' : MoO o') (ha : Mo ma) (hb : Mo mb) (hc : Mo mc) : Mo (dChain o o' ma mb mc) := fun ρ O Q Q' E E' h hx x =>
  ha ρ _ _ _ _ _ (fun _ _ q => hb ρ _ _ _ _ _ (fun _ _ z => ho _ _ _ _ _ (fun d y => bD_mo (fun k y => by
    cases k with
    | true => exact hc ρ _ _ _ _ _ (fun _ _ w => ho' _ _ _ _ _ (fun _ => h _ _) w) hx y
    | false => exact h _ _ y) y) z) hx q) hx x
theorem run_chain {r r' : R2} {o o' : D2} {B : Bo} {Q : VK} (h : RunO K B r o) (mo : MoO o) (h' : RunO K B r' o') (mo' : MoO o') (ha : Mo ma) (hb : Mo mb) (hc : Mo mc)
    (q : up K B W (dChain o o' ma mb mc) σ H Q) : tChain r r' (up K B W ma) (up K B W mb) (up K B W mc) σ H Q := by
  obtain ⟨G, O, ρ, g, rs, q⟩ := q
  refine up_of ha g rs q fun x vx O1 G1 H1 q1 s1 r1 => ?_
  refine up_of hb s1.good (rs.step s1) (mo_step hb s1 q1) fun y vy O2 G2 H2 q2 s2 r2 => ?_
  refine h O2 G2 H2 vx vy x y _ s2.good (r1.mono s2.grow) r2 (mo _ _ _ _ _ (fun z hz v G3 H3 s3 r3 => ?_) q2)
  have s13 := (s1.trans s2).trans s3
  obtain ⟨k, rfl, hz⟩ := bD_run r3 hz
  cases k with
  | true =>
    refine ⟨true, rfl, iteT ?_⟩
    refine up_of hc s3.good (rs.step s13) (mo_step hc s13 hz) fun w vw O4 G4 H4 q4 s4 r4 => ?_
    exact h' O4 G4 H4 vy vw y w Q s4.good (r2.mono (s3.trans s4).grow) r4 (mo' _ _ _ _ _ (fun _ z => z.step (s13.trans s4)) q4)
  | false => exact ⟨false, rfl, iteF (hz _ _ _ s13 (.bl false))⟩
theorem d_chain {op op' : CmpOp} {o o' : D2} (ho : OpD X L.B (compareOp op) o) (ho' : OpD X L.B (compareOp op') o') (ha : DPE X L a ma) (hb : DPE X L b mb) (hc : DPE X L c mc) (hm : lastMarks [op, op'] [b, c] = false) :
    DPE X L (.Compare a [op, op'] [b, c] pos) (dChain o o' ma mb mc) := by
  obtain ⟨mo, r, hr, h⟩ := ho
  obtain ⟨mo', r', hr', h'⟩ := ho'
  exact ⟨mo_chain mo mo' ha.mo hb.mo hc.mo, pe_imp (pe_chain hr hr' ha.run hb.run hc.run hm) fun σ H Q q => run_chain h mo h' mo' ha.mo hb.mo hc.mo q⟩
end
end EV
set_option Elab.async false
set_option linter.all false
set_option maxRecDepth 100000
set_option maxHeartbeats 4000000
namespace EV
open PySem PySem.Spec PyProof.Rows L2
/-- what a handle holds -/
abbrev lk (O : Ow) : D → D
  | .opq (.ref p) => (O p).getD (.opq (.ref p))
  | d => d
def RpX (K : PySem.W.Frag) (G H : Hp) (v : V) (d : D) : Prop := Rp K G v d ∨ ∃ p, v = .ref p ∧ RpO K G H p d
theorem lk_of {O : Ow} {p : Addr} {d : D} (h : O p = some d) : lk O (.opq (.ref p)) = d := by unfold lk; simp [h]
section
variable {K : PySem.W.Frag} {B : Bo} {O : Ow} {G H : Hp}
theorem lk_rp {v : V} {d : D} (g : Good K B O G H) (r : Rp K G v d) : RpX K G H v (lk O d) := by
  cases r with
  | opq v =>
    cases v with
    | ref p =>
      cases e : O p with
      | none => exact .inl (by have q : lk O (.opq (.ref p)) = .opq (.ref p) := by unfold lk; simp [e]
                               rw [q]; exact .opq _)
      | some d => exact .inr ⟨p, rfl, by
          have q : lk O (.opq (.ref p)) = d := by unfold lk; simp [e]
          rw [q]; exact (g.own p d e).2.2⟩
    | _ => exact .inl (.opq _)
  | non => exact .inl .non
  | bl => exact .inl (.bl _)
  | int => exact .inl (.int _)
  | str => exact .inl (.str _)
  | lst a b => exact .inl (.lst a b)
  | tup a b => exact .inl (.tup a b)
  | dic a b => exact .inl (.dic a b)
  | ins a b => exact .inl (.ins a b)
  | exc a b c d => exact .inl (.exc a b c d)
  | lam a b c => exact .inl (.lam a b c)
  | nk a => exact .inl (.nk a)
theorem RpX.lst {v : V} {ds : List D} (s : Sub G H) (h : RpX K G H v (.lst ds)) : ∃ a vs, v = .ref a ∧ H a = some (.lst vs) ∧ RpL K G vs ds := by
  rcases h with h | ⟨p, rfl, vs, e, r⟩
  · cases h with | lst a b => exact ⟨_, _, rfl, s _ _ a, b⟩
  · exact ⟨p, vs, rfl, e, r⟩
theorem RpX.tup {v : V} {ds : List D} (s : Sub G H) (h : RpX K G H v (.tup ds)) : ∃ a vs, v = .ref a ∧ SqT K H a vs ∧ RpL K G vs ds := by
  rcases h with h | ⟨p, rfl, r⟩
  · cases h with | tup a b => exact ⟨_, _, rfl, s.sqT a, b⟩
  · exact r.elim
theorem RpX.dic {v : V} {ds : List (Key × D)} (s : Sub G H) (h : RpX K G H v (.dic ds)) : ∃ a vs, v = .ref a ∧ Rd H a (.dK vs) ∧ RpK K G vs ds := by
  rcases h with h | ⟨p, rfl, vs, e, r⟩
  · cases h with | dic a b => exact ⟨_, _, rfl, .inr ⟨_, s _ _ a⟩, b⟩
  · exact ⟨p, vs, rfl, .inl e, r⟩
theorem RpX.ins {v : V} {C : Addr} {ds : List (Str × D)} (s : Sub G H) (h : RpX K G H v (.ins C ds)) : ∃ a dx fs, v = .ref a ∧ H a = some (.ins C dx fs) ∧ RpF K G fs ds := by
  rcases h with h | ⟨p, rfl, dx, fs, e, r⟩
  · cases h with | ins a b => exact ⟨_, _, _, rfl, s _ _ a, b⟩
  · exact ⟨p, dx, fs, rfl, e, r⟩
theorem RpX.str {v : V} {x : Str} (h : RpX K G H v (.str x)) : v = .str x := by
  rcases h with h | ⟨p, rfl, r⟩
  · cases h; rfl
  · exact r.elim
theorem RpX.int {v : V} {x : Int} (h : RpX K G H v (.int x)) : v = .int x := by
  rcases h with h | ⟨p, rfl, r⟩
  · cases h; rfl
  · exact r.elim
theorem RpX.bl {v : V} {x : Bool} (h : RpX K G H v (.bl x)) : v = .bl x := by
  rcases h with h | ⟨p, rfl, r⟩
  · cases h; rfl
  · exact r.elim
theorem RpX.non {v : V} (h : RpX K G H v .non) : v = .non := by
  rcases h with h | ⟨p, rfl, r⟩
  · cases h; rfl
  · exact r.elim
theorem RpL.isEmpty {vs : List V} {ds : List D} (r : RpL K G vs ds) : vs.isEmpty = ds.isEmpty := by cases r <;> rfl
end
section
variable {X : Cx} {L : Pl} {e a b c : Expr} {es rest : List Expr} {m ma mb mc : DE} {mt mu : DT} {mA : DA} {pos p : Pos}
variable {K : PySem.W.Frag} {B : Bo} {O : Ow} {W : L2.St → XK} {G H : Hp} {σ : L2.St} {ρ : Slots}
abbrev truD : D → (Bool → Prop) → Prop
  | .non, Q => Q false
  | .bl b, Q => Q b
  | .int i, Q => Q (i != 0)
  | .str y, Q => y.length ≤ sizeLine ∧ Q ((y.length : Int) != 0)
  | .lst xs, Q => Q (!xs.isEmpty)
  | .tup xs, Q => Q (!xs.isEmpty)
  | _, _ => False
theorem truD_mo : ∀ {d : D} {Q Q' : Bool → Prop}, (∀ b, Q b → Q' b) → truD d Q → truD d Q'
  | .non, _, _, h, x => h _ x
  | .bl _, _, _, h, x => h _ x
  | .int _, _, _, h, x => h _ x
  | .str _, _, _, h, x => ⟨x.1, h _ x.2⟩
  | .lst _, _, _, h, x => h _ x
  | .tup _, _, _, h, x => h _ x
theorem truD_run {d : D} {v : V} {Q : Bool → Prop} (s : Sub G H) (r : RpX K G H v d) (h : truD d Q) : ∃ k, TruV K v H k ∧ Q k := by
  cases d with
  | non => rw [r.non]; exact ⟨_, rfl, h⟩
  | bl b => rw [r.bl]; exact ⟨_, rfl, h⟩
  | int i => rw [r.int]; exact ⟨_, rfl, h⟩
  | str x => rw [r.str]; exact ⟨_, ⟨h.1, rfl⟩, h.2⟩
  | lst q => obtain ⟨a, vs, rfl, e, rl⟩ := r.lst s; exact ⟨_, .inl ⟨_, .inl (.inl e), rfl⟩, by rw [rl.isEmpty]; exact h⟩
  | tup q => obtain ⟨a, vs, rfl, e, rl⟩ := r.tup s; exact ⟨_, .inr (.inl ⟨_, e, rfl⟩), by rw [rl.isEmpty]; exact h⟩
  | _ => exact h.elim
abbrev dTest (m : DE) : DT := fun ρ O Q E => m ρ O (fun x O1 => truD (lk O1 x) fun b => Q b O1) E
theorem mo_test (h : Mo m) : Mo (dTest m) := fun ρ O Q Q' E E' q hx x => h ρ _ _ _ _ _ (fun _ _ z => truD_mo (fun _ => q _ _) z) hx x
theorem d_test (h : DPE X L a m) (he : ∀ whole, isTrue a X.env whole = (do let v ← whole; standAt a.pos; holding [v] (truthy v))) : DPT X L a (dTest m) := by
  refine ⟨mo_test h.mo, pt_imp (pt_truth h.run he) fun σ H Q ⟨G, O, ρ, g, rs, q⟩ => ?_⟩
  refine up_of h.mo g rs q fun x v O1 G1 H1 q1 s1 r1 => ?_
  obtain ⟨k, t, z⟩ := truD_run s1.good.sub (lk_rp s1.good r1) q1
  exact ⟨k, t, z _ _ s1⟩
/-- a comparison as a test: its answer is a bool -/
abbrev dTestB (m : DE) : DT := fun ρ O Q E => m ρ O (fun x O1 => bD x fun b => Q b O1) E
theorem mo_testB (h : Mo m) : Mo (dTestB m) := fun ρ O Q Q' E E' q hx x => h ρ _ _ _ _ _ (fun d _ z => bD_mo (fun _ => q _ _) z) hx x
theorem run_testB {Q : Bool → Hp → Prop} (hm : Mo m) (h : upT K B W (dTestB m) σ H Q) : up K B W m σ H (fun x H' => ∃ k, x = .bl k ∧ Q k H') := by
  obtain ⟨G, O, ρ, g, rs, q⟩ := h
  refine up_of hm g rs q fun x v O1 G1 H1 q1 s1 r1 => ?_
  obtain ⟨k, rfl, q1⟩ := bD_run r1 q1
  exact ⟨_, rfl, q1 _ _ s1⟩
theorem d_tcmp {op : CmpOp} {o : D2} (ho : OpD X L.B (compareOp op) o) (ha : DPE X L a ma) (hb : DPE X L b mb) (hm : behindInMarks op b = false) : DPT X L (.Compare a [op] [b] pos) (dTestB (dOp o ma mb)) := by
  obtain ⟨mo, r, hr, h⟩ := ho
  refine ⟨mo_testB (mo_op mo ha.mo hb.mo), pt_imp (pt_cmpR hr ha.run hb.run hm) fun σ H Q q => ?_⟩
  exact run_op h mo ha.mo hb.mo (run_testB (mo_op mo ha.mo hb.mo) q)
theorem d_tchain {op op' : CmpOp} {o o' : D2} (ho : OpD X L.B (compareOp op) o) (ho' : OpD X L.B (compareOp op') o') (ha : DPE X L a ma) (hb : DPE X L b mb) (hc : DPE X L c mc) (hm : lastMarks [op, op'] [b, c] = false) :
    DPT X L (.Compare a [op, op'] [b, c] pos) (dTestB (dChain o o' ma mb mc)) := by
  obtain ⟨mo, r, hr, h⟩ := ho
  obtain ⟨mo', r', hr', h'⟩ := ho'
  have mm := mo_chain mo mo' ha.mo hb.mo hc.mo
  refine ⟨mo_testB mm, pt_imp (pt_chain hr hr' ha.run hb.run hc.run hm) fun σ H Q q => ?_⟩
  exact run_chain h mo h' mo' ha.mo hb.mo hc.mo (run_testB mm q)
abbrev dAnd (t u : DT) : DT := fun ρ O Q E => t ρ O (fun c O1 => bc c (u ρ O1 Q E) (Q false O1)) E
abbrev dOr (t u : DT) : DT := fun ρ O Q E => t ρ O (fun c O1 => bc c (Q true O1) (u ρ O1 Q E)) E
abbrev dNot (t : DT) : DT := fun ρ O Q E => t ρ O (fun c O1 => Q (!c) O1) E
theorem mo_and (ht : Mo mt) (hu : Mo mu) : Mo (dAnd mt mu) := fun ρ O Q Q' E E' q hx x => ht ρ _ _ _ _ _ (fun c _ z => by cases c <;> first | exact hu ρ _ _ _ _ _ q hx z | exact q _ _ z) hx x
theorem mo_or (ht : Mo mt) (hu : Mo mu) : Mo (dOr mt mu) := fun ρ O Q Q' E E' q hx x => ht ρ _ _ _ _ _ (fun c _ z => by cases c <;> first | exact hu ρ _ _ _ _ _ q hx z | exact q _ _ z) hx x
theorem mo_not (ht : Mo mt) : Mo (dNot mt) := fun ρ O Q Q' E E' q hx x => ht ρ _ _ _ _ _ (fun _ _ z => q _ _ z) hx x
theorem d_and1 (h : DPT X L a mt) : DPW X L (.BoolOp .And [a] pos) mt := ⟨h.mo, pw_and1 h.run⟩
theorem d_or1 (h : DPT X L a mt) : DPW X L (.BoolOp .Or [a] pos) mt := ⟨h.mo, pw_or1 h.run⟩
/-- go on from a later state -/
theorem upT_on {R : Bool → Hp → Prop} {O1 : Ow} {G1 H1 : Hp} (mo : Mo mt) (rs : RpS K G σ ρ) (s : Step K B O G H O1 G1 H1) (h : mt ρ O1 (kb K B O G H R) (kx K B O G H (W σ))) : upT K B W mt σ H1 R :=
  ⟨G1, O1, ρ, s.good, rs.step s, mo ρ _ _ _ _ _ (fun _ _ z => z.step s) (fun _ _ z => z.step s) h⟩
theorem up_on {R : VK} {O1 : Ow} {G1 H1 : Hp} (mo : Mo m) (rs : RpS K G σ ρ) (s : Step K B O G H O1 G1 H1) (h : m ρ O1 (kv K B O G H R) (kx K B O G H (W σ))) : up K B W m σ H1 R :=
  ⟨G1, O1, ρ, s.good, rs.step s, mo ρ _ _ _ _ _ (fun _ _ z => z.step s) (fun _ _ z => z.step s) h⟩
theorem d_wand (h : DPT X L a mt) (hb : DPW X L (.BoolOp .And (b :: rest) pos) mu) : DPW X L (.BoolOp .And (a :: b :: rest) pos) (dAnd mt mu) := by
  refine ⟨mo_and h.mo hb.mo, pw_imp (pw_and h.run hb.run) fun σ H Q ⟨G, O, ρ, g, rs, q⟩ => ?_⟩
  refine upT_of h.mo g rs q fun c O1 G1 H1 q1 s1 => ?_
  cases c with
  | true => exact iteT (upT_on hb.mo rs s1 q1)
  | false => exact iteF (q1 _ _ s1)
theorem d_wor (h : DPT X L a mt) (hb : DPW X L (.BoolOp .Or (b :: rest) pos) mu) : DPW X L (.BoolOp .Or (a :: b :: rest) pos) (dOr mt mu) := by
  refine ⟨mo_or h.mo hb.mo, pw_imp (pw_or h.run hb.run) fun σ H Q ⟨G, O, ρ, g, rs, q⟩ => ?_⟩
  refine upT_of h.mo g rs q fun c O1 G1 H1 q1 s1 => ?_
  cases c with
  | false => exact iteF (upT_on hb.mo rs s1 q1)
  | true => exact iteT (q1 _ _ s1)
theorem DPW.pt (h : DPW X L e mt) : DPT X L e mt := ⟨h.mo, h.run.pt⟩
theorem d_tnot (h : DPT X L a mt) : DPT X L (.UnaryOp .Not a pos) (dNot mt) := by
  refine ⟨mo_not h.mo, pt_imp (pt_not h.run) fun σ H Q ⟨G, O, ρ, g, rs, q⟩ => ?_⟩
  exact upT_of h.mo g rs q fun c O1 G1 H1 q1 s1 => q1 _ _ s1
abbrev dAndV (ma mb : DE) : DE := fun ρ O Q E => ma ρ O (fun x O1 => truD (lk O1 x) fun k => bc k (mb ρ O1 Q E) (Q x O1)) E
abbrev dNotV (ma : DE) : DE := fun ρ O Q E => ma ρ O (fun x O1 => truD (lk O1 x) fun k => Q (.bl (!k)) O1) E
theorem mo_andV (ha : Mo ma) (hb : Mo mb) : Mo (dAndV ma mb) := fun ρ O Q Q' E E' q hx x => ha ρ _ _ _ _ _ (fun _ _ z => truD_mo (fun k y => by cases k <;> first | exact hb ρ _ _ _ _ _ q hx y | exact q _ _ y) z) hx x
theorem mo_notV (ha : Mo ma) : Mo (dNotV ma) := fun ρ O Q Q' E E' q hx x => ha ρ _ _ _ _ _ (fun _ _ z => truD_mo (fun k y => q _ _ y) z) hx x
theorem d_one {op} (h : DPE X L a m) : DPE X L (.BoolOp op [a] pos) m := ⟨h.mo, pe_one h.run⟩
theorem d_and (ha : DPE X L a ma) (hb : DPE X L (.BoolOp .And (b :: rest) pos) mb) : DPE X L (.BoolOp .And (a :: b :: rest) pos) (dAndV ma mb) := by
  refine ⟨mo_andV ha.mo hb.mo, pe_imp (pe_andT ha.run hb.run) fun σ H Q ⟨G, O, ρ, g, rs, q⟩ => ?_⟩
  refine up_of ha.mo g rs q fun x v O1 G1 H1 q1 s1 r1 => ?_
  obtain ⟨k, t, z⟩ := truD_run s1.good.sub (lk_rp s1.good r1) q1
  refine ⟨k, t, ?_⟩
  cases k with
  | true => exact iteT (up_on hb.mo rs s1 z)
  | false => exact iteF (z _ _ _ s1 r1)
theorem d_not (ha : DPE X L a ma) : DPE X L (.UnaryOp .Not a pos) (dNotV ma) := by
  refine ⟨mo_notV ha.mo, pe_imp (pe_notT ha.run) fun σ H Q ⟨G, O, ρ, g, rs, q⟩ => ?_⟩
  refine up_of ha.mo g rs q fun x v O1 G1 H1 q1 s1 r1 => ?_
  obtain ⟨k, t, z⟩ := truD_run s1.good.sub (lk_rp s1.good r1) q1
  exact ⟨k, t, z _ _ _ s1 (.bl _)⟩
abbrev dIf (t : DT) (ma mb : DE) : DE := fun ρ O Q E => t ρ O (fun c O1 => bc c (ma ρ O1 Q E) (mb ρ O1 Q E)) E
theorem mo_if (ht : Mo mt) (ha : Mo ma) (hb : Mo mb) : Mo (dIf mt ma mb) := fun ρ O Q Q' E E' q hx x => ht ρ _ _ _ _ _ (fun c _ z => by cases c <;> first | exact hb ρ _ _ _ _ _ q hx z | exact ha ρ _ _ _ _ _ q hx z) hx x
theorem d_if (hc : DPT X L c mt) (ha : DPE X L a ma) (hb : DPE X L b mb) : DPE X L (.IfExp c a b pos) (dIf mt ma mb) := by
  refine ⟨mo_if hc.mo ha.mo hb.mo, pe_imp (pe_ifExp hc.run ha.run hb.run) fun σ H Q ⟨G, O, ρ, g, rs, q⟩ => ?_⟩
  refine upT_of hc.mo g rs q fun c O1 G1 H1 q1 s1 => ?_
  cases c with
  | true => exact iteT (up_on ha.mo rs s1 q1)
  | false => exact iteF (up_on hb.mo rs s1 q1)
abbrev dNil : DA := fun _ O Q _ => Q [] O
abbrev dCons (ma : DE) (mr : DA) : DA := fun ρ O Q E => ma ρ O (fun x O1 => mr ρ O1 (fun xs O2 => Q (x :: xs) O2) E) E
theorem mo_nil : Mo dNil := fun _ _ _ _ _ _ q _ x => q _ _ x
theorem mo_cons (ha : Mo ma) (hr : Mo mA) : Mo (dCons ma mA) := fun ρ O Q Q' E E' q hx x => ha ρ _ _ _ _ _ (fun _ _ z => hr ρ _ _ _ _ _ (fun _ _ y => q _ _ y) hx z) hx x
theorem d_nil : DPA X L [] dNil := ⟨mo_nil, pa_imp pa_nil fun σ H Q ⟨G, O, ρ, g, rs, q⟩ => q _ _ _ (Step.refl g) .nil⟩
theorem d_cons (ha : DPE X L e m) (hr : DPA X L es mA) (hs : starEach (e :: es) X.env = (false, eval e X.env) :: starEach es X.env) : DPA X L (e :: es) (dCons m mA) := by
  refine ⟨mo_cons ha.mo hr.mo, pa_imp (pa_cons ha.run hr.run hs) fun σ H Q ⟨G, O, ρ, g, rs, q⟩ => ?_⟩
  refine up_of ha.mo g rs q fun x v O1 G1 H1 q1 s1 r1 => ?_
  exact upA_of hr.mo s1.good (rs.step s1) (mo_step hr.mo s1 q1) fun xs vs O2 G2 H2 q2 s2 r2 => q2 _ _ _ (s1.trans s2) (.cons (r1.mono s2.grow) r2)
abbrev dTup (mA : DA) : DE := fun ρ O Q E => mA ρ O (fun xs O1 => xs.length ≤ sizeLine ∧ Q (.tup xs) O1) E
abbrev dLst (mA : DA) : DE := fun ρ O Q E => mA ρ O (fun xs O1 => xs.length ≤ sizeLine ∧ Q (.lst xs) O1) E
theorem mo_tup (h : Mo mA) : Mo (dTup mA) := fun ρ O Q Q' E E' q hx x => h ρ _ _ _ _ _ (fun _ _ z => ⟨z.1, q _ _ z.2⟩) hx x
theorem mo_lst (h : Mo mA) : Mo (dLst mA) := fun ρ O Q Q' E E' q hx x => h ρ _ _ _ _ _ (fun _ _ z => ⟨z.1, q _ _ z.2⟩) hx x
theorem new_tup {vs : List V} {ds : List D} {q : Addr} (g : Good K B O G H) (n : H q = none) (r : RpL K G vs ds) : Rp K (upd G q (.tup vs)) (.ref q) (.tup ds) :=
  .tup (.inl (.inl upd_same)) (r.mono (Step.new g n).grow)
theorem new_lst {vs : List V} {ds : List D} {q : Addr} (g : Good K B O G H) (n : H q = none) (r : RpL K G vs ds) : Rp K (upd G q (.lst vs)) (.ref q) (.lst ds) :=
  .lst upd_same (r.mono (Step.new g n).grow)
theorem d_tup {x1} (h : DPA X L es mA) : DPE X L (.Tuple es x1 pos) (dTup mA) := by
  refine ⟨mo_tup h.mo, pe_imp (pe_tup h.run) fun σ H Q ⟨G, O, ρ, g, rs, q⟩ => ?_⟩
  exact upA_of h.mo g rs q fun xs vs O1 G1 H1 q1 s1 r1 => ⟨by rw [r1.length]; exact q1.1, fun p np => q1.2 _ _ _ (s1.trans (Step.new s1.good np)) (new_tup s1.good np r1)⟩
theorem d_lst (h : DPA X L es mA) : DPE X L (.List es pos) (dLst mA) := by
  refine ⟨mo_lst h.mo, pe_imp (pe_lst h.run) fun σ H Q ⟨G, O, ρ, g, rs, q⟩ => ?_⟩
  exact upA_of h.mo g rs q fun xs vs O1 G1 H1 q1 s1 r1 => ⟨by rw [r1.length]; exact q1.1, fun p np => q1.2 _ _ _ (s1.trans (Step.new s1.good np)) (new_lst s1.good np r1)⟩
/-- a new handle -/
theorem new_own {q : Addr} {o : HO} {d : D} (g : Good K B O G H) (n : H q = none) (r : RpO K G (upd H q o) q d) : Step K B O G H (oset O q d) G (upd H q o) :=
  Step.put g (g.freshG n) (g.nhid n) r (.inr n)
/-- a list of one's own -/
abbrev dLstO (mA : DA) : DE := fun ρ O Q E => mA ρ O (fun xs O1 => xs.length ≤ sizeLine ∧ ∀ p, O1 p = none → Q (.opq (.ref p)) (oset O1 p (.lst xs))) E
theorem mo_lstO (h : Mo mA) : Mo (dLstO mA) := fun ρ O Q Q' E E' q hx x => h ρ _ _ _ _ _ (fun _ _ z => ⟨z.1, fun p n => q _ _ (z.2 p n)⟩) hx x
theorem d_lstO (h : DPA X L es mA) : DPE X L (.List es pos) (dLstO mA) := by
  refine ⟨mo_lstO h.mo, pe_imp (pe_lst h.run) fun σ H Q ⟨G, O, ρ, g, rs, q⟩ => ?_⟩
  exact upA_of h.mo g rs q fun xs vs O1 G1 H1 q1 s1 r1 => ⟨by rw [r1.length]; exact q1.1, fun p np => q1.2 p (s1.good.fresh np) _ _ _ (s1.trans (new_own s1.good np ⟨vs, upd_same, r1⟩)) (.opq _)⟩
abbrev DC := Ow → List D → (D → Prop) → Prop
abbrev pc (o : List D → (D → Prop) → Prop) : DC := fun _ => o
def MoC (o : DC) : Prop := ∀ O x Q Q', (∀ d, Q d → Q' d) → o O x Q → o O x Q'
def RunC (K : PySem.W.Frag) (B : Bo) (r : List V → Hp → VK → Prop) (o : DC) : Prop := ∀ O G H vs ds Q, Good K B O G H → RpL K G vs ds → o O ds (fun d => kv K B O G H Q d O) → r vs H Q
structure CallD (X : Cx) (B : Bo) (f : Value) (o : DC) : Prop where
  mo : MoC o
  run : ∃ r, CallR X f r ∧ RunC X.K B r o
abbrev dCB (o : DC) (mA : DA) : DE := fun ρ O Q E => mA ρ O (fun xs O1 => o O1 xs fun d => Q d O1) E
theorem mo_cb {o : DC} (ho : MoC o) (h : Mo mA) : Mo (dCB o mA) := fun ρ O Q Q' E E' q hx x => h ρ _ _ _ _ _ (fun _ _ z => ho _ _ _ _ (fun _ => q _ _) z) hx x
theorem run_cb {r : List V → Hp → VK → Prop} {o : DC} {Q : VK} (hr : RunC K B r o) (mo : MoC o) (h : Mo mA)
    (q : up K B W (dCB o mA) σ H Q) : tCB r (upA K B W mA) σ H Q := by
  obtain ⟨G, O, ρ, g, rs, q⟩ := q
  exact upA_of h g rs q fun xs vs O1 G1 H1 q1 s1 r1 => hr O1 G1 H1 vs xs Q s1.good r1 (mo _ _ _ _ (fun _ z => z.step s1) q1)
theorem d_callB {x : Str} {id : String} {o : DC} (hc : CallD X L.B (.builtin id) o) (hg : Gl X x) (hm : X.mg x = none) (hv : bootBuiltins x = some (.builtin id)) (ha : DPA X L (e :: es) mA) (hn : x ≠ "__name__") (hdb : (x == ("__debug__" : Str)) = false)
    (he : starEach (e :: es) X.env = (false, eval e X.env) :: starEach es X.env) (hpl : (backTo pos (starEach es X.env)).any (·.1) = false) : DPE X L (.Call (.Name x p) (e :: es) [] pos) (dCB o mA) := by
  obtain ⟨mo, r, hr, h⟩ := hc
  exact ⟨mo_cb mo ha.mo, pe_imp (pe_callB hr hg hm hv ha.run hn hdb he hpl) fun σ H Q q => run_cb h mo ha.mo q⟩
theorem d_callTy {x : Str} {T : String} {o : DC} (hc : CallD X L.B (.type T) o) (hg : Gl X x) (hm : X.mg x = none) (hv : bootBuiltins x = some (.type T)) (ha : DPA X L (e :: es) mA) (hn : x ≠ "__name__") (hdb : (x == ("__debug__" : Str)) = false)
    (he : starEach (e :: es) X.env = (false, eval e X.env) :: starEach es X.env) (hpl : (backTo pos (starEach es X.env)).any (·.1) = false) : DPE X L (.Call (.Name x p) (e :: es) [] pos) (dCB o mA) := by
  obtain ⟨mo, r, hr, h⟩ := hc
  exact ⟨mo_cb mo ha.mo, pe_imp (pe_callTy hr hg hm hv ha.run hn hdb he hpl) fun σ H Q q => run_cb h mo ha.mo q⟩
end
abbrev DSp := List D → Ow → QD → QX → Prop
/-- closed upward -/
def spM (sp : DSp) : DSp := fun ds O Q E => ∃ Q0 E0, sp ds O Q0 E0 ∧ (∀ d O, Q0 d O → Q d O) ∧ ∀ x O, E0 x O → E x O
theorem spM.of {sp : DSp} {ds : List D} {O : Ow} {Q : QD} {E : QX} (h : sp ds O Q E) : spM sp ds O Q E := ⟨Q, E, h, fun _ _ x => x, fun _ _ x => x⟩
def spD (K : PySem.W.Frag) (sp : DSp) : Sp := fun vs H Q E => ∃ G O ds, Good K bo0 O G H ∧ RpL K G vs ds ∧ spM sp ds O (kv K bo0 O G H Q) (kx K bo0 O G H E)
def spB (K : PySem.W.Frag) (sp : DSp) : Sp := fun vs H Q E => ∃ b l T ws G O ds, vs = .ref b :: ws ∧ Good K (boB b l T) O G H ∧ RpL K G ws ds ∧ spM sp ds O (kv K (boB b l T) O G H Q) (kx K (boB b l T) O G H E)
theorem no_hid {a : Addr} : ¬ Hid bo0 a := fun ⟨_, _, _, e, _⟩ => nomatch e
theorem Good.none {K : PySem.W.Frag} {B : Bo} {O : Ow} {G H : Hp} (g : Good K B O G H) : Good K bo0 O G H := ⟨g.sub, (fun _ _ _ e => nomatch e), (fun _ _ e => nomatch e), fun p d e => ⟨(g.own p d e).1, no_hid, (g.own p d e).2.2⟩⟩
theorem Step.lift {K : PySem.W.Frag} {B : Bo} {O O' : Ow} {G H G' H' : Hp} (g : Good K B O G H) (s : Step K bo0 O G H O' G' H') : Step K B O G H O' G' H' := by
  have hb : ∀ a, Hid B a → ∃ o, H a = some o ∧ G a = Option.none ∧ O a = Option.none := fun a h => by
    obtain ⟨o, e, _⟩ := g.hidH h
    exact ⟨o, e, g.hidG h, g.hidO h⟩
  refine ⟨s.grow, ⟨s.good.sub, fun b l T e => ?_, g.amb.trans s.grow, fun p d e => ⟨(s.good.own p d e).1, fun z => ?_, (s.good.own p d e).2.2⟩⟩, fun a o h _ n => s.keep a o h no_hid n, s.hid, s.still⟩
  · refine (g.box b l T e).step s.grow (fun a ha => ?_) fun a o ha h => ?_
    · obtain ⟨o, h, hG, hO⟩ := hb a ⟨b, l, T, e, ha⟩
      exact (s.hid _ _ h hG hO).1
    · exact s.keep _ _ h no_hid (g.hidO ⟨b, l, T, e, ha⟩)
  · obtain ⟨o, h, hG, hO⟩ := hb p z
    have := (s.hid _ _ h hG hO).2
    rw [e] at this; cases this
/-- the box alone, without what is around -/
theorem Good.box0 {K : PySem.W.Frag} {B : Bo} {b l : Addr} {T : List (Addr × Str)} {O : Ow} {G H : Hp} (g : Good K B O G H) (e : B.bx = some (b, l, T)) : Good K (boB b l T) O G H := ⟨g.sub, fun b' l' T' e' => g.box b' l' T' (e.trans e'), (fun _ _ e => nomatch e), fun p d q => ⟨(g.own p d q).1, fun ⟨b', l', T', e', h⟩ => (g.own p d q).2.1 ⟨b', l', T', e.trans e', h⟩, (g.own p d q).2.2⟩⟩
theorem Step.lift0 {K : PySem.W.Frag} {B : Bo} {b l : Addr} {T : List (Addr × Str)} {O O' : Ow} {G H G' H' : Hp} (g : Good K B O G H) (e : B.bx = some (b, l, T)) (s : Step K (boB b l T) O G H O' G' H') : Step K B O G H O' G' H' := by
  have hb : ∀ {a : Addr}, Hid (boB b l T) a ↔ Hid B a := fun {a} => ⟨fun ⟨b', l', T', e', h⟩ => ⟨b', l', T', e.trans e', h⟩, fun ⟨b', l', T', e', h⟩ => ⟨b', l', T', e.symm.trans e', h⟩⟩
  exact ⟨s.grow, ⟨s.good.sub, fun b' l' T' e' => s.good.box b' l' T' (e.symm.trans e'), g.amb.trans s.grow, fun p d q => ⟨(s.good.own p d q).1, fun z => (s.good.own p d q).2.1 (hb.mpr z), (s.good.own p d q).2.2⟩⟩, fun a o h n z => s.keep a o h (fun y => n (hb.mp y)) z, s.hid, s.still⟩
theorem kv.lift {K : PySem.W.Frag} {B : Bo} {O O' : Ow} {G H : Hp} {Q : VK} {d : D} (g : Good K B O G H) (h : kv K B O G H Q d O') : kv K bo0 O G H Q d O' := fun v G' H' s r => h v G' H' (s.lift g) r
theorem kx.lift {K : PySem.W.Frag} {B : Bo} {O O' : Ow} {G H : Hp} {E : XK} {x : Xc} (g : Good K B O G H) (h : kx K B O G H E x O') : kx K bo0 O G H E x O' := fun d fs G' H' s a r => h d fs G' H' (s.lift g) a r
end EV
set_option Elab.async false
set_option linter.all false
set_option maxRecDepth 100000
set_option maxHeartbeats 4000000
namespace EV
open PySem PySem.Spec PyProof.Rows L2
section
variable {X : Cx} {L : Pl} {e a b c : Expr} {es rest : List Expr} {m ma mb mc : DE} {mt mu : DT} {mA : DA} {pos p : Pos}
variable {K : PySem.W.Frag} {B : Bo} {O : Ow} {W : L2.St → XK} {G H : Hp} {σ : L2.St} {ρ : Slots}
abbrev dCall (sp : DSp) (mA : DA) : DE := fun ρ O Q E => mA ρ O (fun ds O1 => spM sp ds O1 Q E) E
theorem spM_mo {sp : DSp} {ds : List D} {O : Ow} {Q Q' : QD} {E E' : QX} (q : ∀ d O, Q d O → Q' d O) (x : ∀ d O, E d O → E' d O) (h : spM sp ds O Q E) : spM sp ds O Q' E' := by
  obtain ⟨Q0, E0, h, a, b⟩ := h
  exact ⟨Q0, E0, h, fun d O z => q _ _ (a _ _ z), fun d O z => x _ _ (b _ _ z)⟩
theorem mo_call {sp : DSp} (h : Mo mA) : Mo (dCall sp mA) := fun ρ O Q Q' E E' q hx x => h ρ _ _ _ _ _ (fun _ _ z => spM_mo q hx z) hx x
theorem d_call {CX : CXT} {k : Nat} {f : Addr} {fd : FuncData} {ps : List Str} {sp : DSp} {x : Str} (Fn : FnOk X.prog X.w X.K X.mg X.base CX k f fd ps (spD X.K sp)) (hr : Room k X.A) (hg : Gl X x) (hm : X.mg x = some (.ref f)) (hk : PySem.W.keepIn X.K (.ref f) = true) (hb : Binds X.K fd ps [])
    (hx : ∀ σ, PassesAt CX X σ (L.W σ)) (ha : DPA X L (e :: es) mA) (hdb : (x == ("__debug__" : Str)) = false) (he : starEach (e :: es) X.env = (false, eval e X.env) :: starEach es X.env) (hpl : (backTo pos (starEach es X.env)).any (·.1) = false) :
    DPE X L (.Call (.Name x p) (e :: es) [] pos) (dCall sp mA) := by
  refine ⟨mo_call ha.mo, pe_imp (pe_callSD Fn hr hg hm hk hb .nil hx ha.run hdb he hpl) fun σ H Q ⟨G, O, ρ, g, rs, q⟩ => ?_⟩
  refine upA_of ha.mo g rs q fun xs vs O1 G1 H1 q1 s1 r1 => ?_
  exact ⟨G1, O1, xs, s1.good.none, by rw [List.append_nil]; exact r1, spM_mo (fun d _ z => (z.step s1).lift s1.good) (fun x _ z => (z.step s1).lift s1.good) q1⟩
/-- f(box, ..) -/
abbrev dCallX (bx : Addr) (sp : DSp) (mA : DA) : DE := fun ρ O Q E => mA ρ O (fun ds O1 => match ds with
  | .opq (.ref b) :: r => b = bx ∧ spM sp r O1 Q E
  | _ => False) E
theorem mo_callX {sp : DSp} {bx : Addr} (h : Mo mA) : Mo (dCallX bx sp mA) := fun ρ O Q Q' E E' q hx x => h ρ _ _ _ _ _ (fun ds O1 z => by
  split at z
  · exact ⟨z.1, spM_mo q hx z.2⟩
  · exact z) hx x
theorem d_callX {CX : CXT} {k : Nat} {f bx lx : Addr} {T : List (Addr × Str)} {fd : FuncData} {ps : List Str} {sp : DSp} {x : Str} (Fn : FnOk X.prog X.w X.K X.mg X.base CX k f fd ps (spB X.K sp)) (hB : L.B.bx = some (bx, lx, T)) (hr : Room k X.A) (hg : Gl X x) (hm : X.mg x = some (.ref f)) (hk : PySem.W.keepIn X.K (.ref f) = true) (hb : Binds X.K fd ps [])
    (hx : ∀ σ, PassesAt CX X σ (L.W σ)) (ha : DPA X L (e :: es) mA) (hdb : (x == ("__debug__" : Str)) = false) (he : starEach (e :: es) X.env = (false, eval e X.env) :: starEach es X.env) (hpl : (backTo pos (starEach es X.env)).any (·.1) = false) :
    DPE X L (.Call (.Name x p) (e :: es) [] pos) (dCallX bx sp mA) := by
  refine ⟨mo_callX ha.mo, pe_imp (pe_callSD Fn hr hg hm hk hb .nil hx ha.run hdb he hpl) fun σ H Q ⟨G, O, ρ, g, rs, q⟩ => ?_⟩
  refine upA_of ha.mo g rs q fun xs vs O1 G1 H1 q1 s1 r1 => ?_
  rw [List.append_nil]
  split at q1
  · rename_i b r
    obtain ⟨rfl, q1⟩ := q1
    cases r1 with
    | cons r2 r3 =>
      cases r2
      exact ⟨b, lx, T, _, G1, O1, r, rfl, s1.good.box0 hB, r3, spM_mo (fun d _ z v G' H' t rv => z v G' H' (s1.trans (t.lift0 s1.good hB)) rv) (fun x _ z d fs G' H' t a rf => z d fs G' H' (s1.trans (t.lift0 s1.good hB)) a rf) q1⟩
  · exact q1.elim
def ixP : D → D → (D → Prop) → Prop
  | .lst xs, .int i, Q => match atI xs i with
    | some d => Q d
    | none => False
  | .tup xs, .int i, Q => match atI xs i with
    | some d => Q d
    | none => False
  | .str z, .int i, Q => z.length ≤ sizeLine ∧ match atI z.cps.toList i with
    | some c => Q (.str ⟨#[c]⟩)
    | none => False
  | _, _, _ => False
abbrev ixD : D2 := fun O x y Q => ixP (lk O x) y Q
theorem ixP_mo {x y : D} {Q Q' : D → Prop} (h : ∀ d, Q d → Q' d) (z : ixP x y Q) : ixP x y Q' := by
  unfold ixP at z ⊢
  split at z
  · split at z
    · exact h _ z
    · exact z
  · split at z
    · exact h _ z
    · exact z
  · refine ⟨z.1, ?_⟩
    obtain ⟨_, z⟩ := z
    split at z
    · exact h _ z
    · exact z
  · exact z
theorem ixD_mo : MoO ixD := fun O x y Q Q' h z => ixP_mo h z
theorem RpL.atI {vs : List V} {ds : List D} {i : Int} {d : D} (r : RpL K G vs ds) (h : L2.atI ds i = some d) : ∃ v, L2.atI vs i = some v ∧ Rp K G v d := by
  unfold L2.atI at h ⊢
  rw [r.length]
  cases e : ixN ds.length i with
  | none => rw [e] at h; cases h
  | some j => rw [e] at h; exact r.get h
theorem d_ix (ha : DPE X L a ma) (hb : DPE X L b mb) (hs : PlainIx b) : DPE X L (.Subscript a b pos) (dOp ixD ma mb) := by
  refine ⟨mo_op ixD_mo ha.mo hb.mo, pe_imp (pe_ix ix_seq ha.run hb.run hs) fun σ H Q q => run_op (fun O G H x y a b Q g r1 r2 h => ?_) ixD_mo ha.mo hb.mo q⟩
  have r1 := lk_rp g r1
  unfold ixD ixP at h
  split at h
  · rename_i e0
    rw [e0] at r1
    split at h
    · rename_i d e
      obtain ⟨p, vs, rfl, s, rl⟩ := r1.lst g.sub
      cases r2
      obtain ⟨v, e1, r3⟩ := rl.atI e
      exact .inl ⟨_, _, _, v, rfl, rfl, .inl (.inl s), e1, h _ _ _ (Step.refl g) r3⟩
    · exact h.elim
  · rename_i e0
    rw [e0] at r1
    split at h
    · rename_i d e
      obtain ⟨p, vs, rfl, s, rl⟩ := r1.tup g.sub
      cases r2
      obtain ⟨v, e1, r3⟩ := rl.atI e
      exact .inr (.inl ⟨_, _, _, v, rfl, rfl, s, e1, h _ _ _ (Step.refl g) r3⟩)
    · exact h.elim
  · rename_i e0
    rw [e0] at r1
    obtain ⟨hz, h⟩ := h
    split at h
    · rename_i d e
      cases r1.str
      cases r2
      exact .inr (.inr ⟨_, _, _, rfl, rfl, hz, e, h _ _ _ (Step.refl g) (.str _)⟩)
    · exact h.elim
  · exact h.elim
abbrev DO := Slots → Ow → (Option Int → Ow → Prop) → QX → Prop
def ko (K : PySem.W.Frag) (B : Bo) (O : Ow) (G H : Hp) (Q : Option Int → Hp → Prop) : Option Int → Ow → Prop := fun b O' => ∀ G' H', Step K B O G H O' G' H' → Q b H'
def upO (K : PySem.W.Frag) (B : Bo) (W : L2.St → XK) (m : DO) : TO := fun σ H Q => ∃ G O ρ, Good K B O G H ∧ RpS K G σ ρ ∧ m ρ O (ko K B O G H Q) (kx K B O G H (W σ))
structure DPO (X : Cx) (L : Pl) (e : Option Expr) (m : DO) : Prop where
  mo : Mo m
  run : PO X e (upO X.K L.B L.W m)
theorem po_imp {e : Option Expr} {t t' : TO} (h : PO X e t) (i : ∀ σ H Q, t' σ H Q → t σ H Q) : PO X e t' := ⟨fun pins s σ H Q I q => h.run pins s σ H Q I (i _ _ _ q)⟩
abbrev dNoPart : DO := fun _ O Q _ => Q none O
abbrev dPart (m : DE) : DO := fun ρ O Q E => m ρ O (fun d O1 => match d with | .int i => Q (some i) O1 | _ => False) E
theorem d_nopart : DPO X L none dNoPart := ⟨fun _ _ _ _ _ _ q _ x => q _ _ x, po_imp po_none fun σ H Q ⟨G, O, ρ, g, rs, q⟩ => q _ _ (Step.refl g)⟩
theorem mo_part (h : Mo m) : Mo (dPart m) := fun ρ O Q Q' E E' q hx x => h ρ _ _ _ _ _ (fun d _ z => by cases d <;> first | exact q _ _ z | exact z) hx x
theorem d_part (h : DPE X L e m) : DPO X L (some e) (dPart m) := by
  refine ⟨mo_part h.mo, po_imp (po_some h.run) fun σ H Q ⟨G, O, ρ, g, rs, q⟩ => ?_⟩
  refine up_of h.mo g rs q fun x v O1 G1 H1 q1 s1 r1 => ?_
  cases r1 <;> first
    | exact ⟨_, rfl, q1 _ _ s1⟩
    | exact q1.elim
def cutD (xs : List D) (lo hi : Option Int) : List D := (xs.drop (HT.sIx xs.length 0 lo)).take (HT.sIx xs.length xs.length hi - HT.sIx xs.length 0 lo)
theorem RpL.cut {vs : List V} {ds : List D} (r : RpL K G vs ds) (lo hi : Option Int) : RpL K G (cutV vs lo hi) (cutD ds lo hi) := by
  unfold cutV cutD
  rw [r.length]
  exact (r.drop _).take _
def slD : D → Option Int → Option Int → (D → Prop) → Prop
  | .lst xs, lo, hi, Q => Q (.lst (cutD xs lo hi))
  | .tup xs, lo, hi, Q => ¬ (HT.sIx xs.length 0 lo = 0 ∧ HT.sIx xs.length xs.length hi = xs.length) ∧ Q (.tup (cutD xs lo hi))
  | .str z, lo, hi, Q => z.length ≤ sizeLine ∧ Q (.str (cutS z lo hi))
  | _, _, _, _ => False
theorem slD_mo : ∀ {x lo hi Q Q'}, (∀ d, Q d → Q' d) → slD x lo hi Q → slD x lo hi Q'
  | .lst _, _, _, _, _, h, z => h _ z
  | .tup _, _, _, _, _, h, z => ⟨z.1, h _ z.2⟩
  | .str _, _, _, _, _, h, z => ⟨z.1, h _ z.2⟩
abbrev dSl (m : DE) (ml mh : DO) : DE := fun ρ O Q E => m ρ O (fun x O1 => ml ρ O1 (fun lo O2 => mh ρ O2 (fun hi O3 => slD (lk O3 x) lo hi fun d => Q d O3) E) E) E
theorem mo_sl {ml mh : DO} (h : Mo m) (hl : Mo ml) (hh : Mo mh) : Mo (dSl m ml mh) := fun ρ O Q Q' E E' q hx x => h ρ _ _ _ _ _ (fun _ _ z => hl ρ _ _ _ _ _ (fun _ _ y => hh ρ _ _ _ _ _ (fun _ _ w => slD_mo (fun _ => q _ _) w) hx y) hx z) hx x
theorem upO_of {R : Option Int → Hp → Prop} {P : Option Int → Ow → Prop} {mo : DO} (hm : Mo mo) (g : Good K B O G H) (r : RpS K G σ ρ) (h : mo ρ O P (kx K B O G H (W σ)))
    (k : ∀ b O' G' H', P b O' → Step K B O G H O' G' H' → R b H') : upO K B W mo σ H R :=
  ⟨G, O, ρ, g, r, hm ρ _ _ _ _ _ (fun d O' p G' H' s => k d O' G' H' p s) (fun _ _ x => x) h⟩
theorem d_sl {lo hi : Option Expr} {ml mh : DO} {p2 : Pos} (h : DPE X L e m) (hl : DPO X L lo ml) (hh : DPO X L hi mh) : DPE X L (.Subscript e (.Slice lo hi none p2) pos) (dSl m ml mh) := by
  refine ⟨mo_sl h.mo hl.mo hh.mo, pe_imp (pe_slice (sl_list.or (sl_tup.or sl_str)) h.run hl.run hh.run) fun σ H Q ⟨G, O, ρ, g, rs, q⟩ => ?_⟩
  refine up_of h.mo g rs q fun x v O1 G1 H1 q1 s1 r1 => ?_
  refine upO_of hl.mo s1.good (rs.step s1) (mo_step hl.mo s1 q1) fun l O2 G2 H2 q2 s2 => ?_
  have s12 := s1.trans s2
  refine upO_of hh.mo s2.good (rs.step s12) (mo_step hh.mo s12 q2) fun u O3 G3 H3 q3 s3 => ?_
  have s13 := s12.trans s3
  have r3 := lk_rp s3.good (r1.mono (s2.trans s3).grow)
  generalize lk O3 x = y at q3 r3
  cases y with
  | lst xs =>
    obtain ⟨p, vs, rfl, e, rl⟩ := r3.lst s3.good.sub
    refine .inl ⟨_, _, rfl, .inl (.inl e), fun p np => ?_⟩
    exact q3 _ _ _ (s13.trans (Step.new s3.good np)) (new_lst s3.good np (rl.cut _ _))
  | tup xs =>
    obtain ⟨p, vs, rfl, e, rl⟩ := r3.tup s3.good.sub
    refine .inr (.inl ⟨_, _, rfl, e, by rw [rl.length]; exact q3.1, fun p np => ?_⟩)
    exact q3.2 _ _ _ (s13.trans (Step.new s3.good np)) (new_tup s3.good np (rl.cut _ _))
  | str z => cases r3.str; exact .inr (.inr ⟨_, rfl, q3.1, q3.2 _ _ _ s13 (.str _)⟩)
  | _ => exact q3.elim
end
end EV
set_option Elab.async false
set_option linter.all false
set_option maxRecDepth 100000
set_option maxHeartbeats 4000000
namespace EV
open PySem PySem.Spec PyProof.Rows L2
abbrev IL := (Ow → Prop) × List D
abbrev DI := Slots → Ow → (IL → Ow → Prop) → QX → Prop
/-- J gives the data ds, one by one, while what was visible at G0 is so and the handles are as I says -/
def ItD (K : PySem.W.Frag) (B : Bo) (G0 : Hp) (J : It) (x : IL) : Prop := ∀ (i : Nat) (O : Ow) (G H : Hp), Good K B O G H → Sub G0 G → x.1 O →
  (∀ d, x.2[i]? = some d → J.go i H ∧ ∀ v H', J.yld i H v H' → ∃ G', Step K B O G H O G' H' ∧ Rp K G' v d) ∧ (i = x.2.length → J.stop i H)
def ki (K : PySem.W.Frag) (B : Bo) (O : Ow) (G H : Hp) (R : It → Hp → Prop) : IL → Ow → Prop := fun x O' => ∀ J G' H', Step K B O G H O' G' H' → ItD K B G' J x → R J H'
def upI (K : PySem.W.Frag) (B : Bo) (W : L2.St → XK) (m : DI) : TI := fun σ H R => ∃ G O ρ, Good K B O G H ∧ RpS K G σ ρ ∧ m ρ O (ki K B O G H R) (kx K B O G H (W σ))
structure DPI (X : Cx) (L : Pl) (tg e : Expr) (m : DI) : Prop where
  mo : Mo m
  run : PI X tg e (upI X.K L.B L.W m)
section
variable {X : Cx} {L : Pl} {e a b c tg : Expr} {es rest : List Expr} {m ma mb mc : DE} {mt mu : DT} {mA : DA} {pos p : Pos}
variable {K : PySem.W.Frag} {B : Bo} {O : Ow} {W : L2.St → XK} {G H : Hp} {σ : L2.St} {ρ : Slots} {I : Ow → Prop}
theorem pi_imp {t t' : TI} (h : PI X tg e t) (i : ∀ σ H Q, t' σ H Q → t σ H Q) : PI X tg e t' := ⟨fun pins s σ H Q I q => h.run pins s σ H Q I (i _ _ _ q)⟩
/-- a list, a tuple or a text -/
def iAny (K : PySem.W.Frag) (te : TE) : TI := fun σ H R => te σ H fun x H1 => (∃ a, x = .ref a ∧ (∃ xs, SqL K H1 a xs) ∧ R (Itl K a) H1) ∨ (∃ a, x = .ref a ∧ (∃ xs, SqT K H1 a xs) ∧ R (Itt K a) H1) ∨ ∃ y, x = .str y ∧ R (Its y) H1
theorem pi_any {te : TE} (he : PE X e te) : PI X tg e (iAny X.K te) := by
  refine ⟨fun pins s σ H R I h => ?_⟩
  refine thn (he.run pins s σ H _ I h) fun v s1 ⟨x, H1, I1, r1, q1⟩ => ?_
  rcases q1 with ⟨a, ex, ⟨xs, hq⟩, q⟩ | ⟨a, ex, ⟨xs, hq⟩, q⟩ | ⟨y, ex, q⟩
  · subst ex
    cases r1
    obtain ⟨its, rv, p, hz⟩ := I1.list hq
    refine wpAny_pyIter_list p.isList ?_
    refine ⟨s1.heap.objs.size, [s1.heap.objs.size], _, _, H1, rfl, I1.kept (t' := s1.toks) fun b o e => Heap.get?_push_of_some _ e, turn_list a _, ⟨_, Heap.get?_push_size _ rfl, rfl, rfl⟩, fun b hb => ?_, q⟩
    have e : b = s1.heap.objs.size := by simpa using hb
    subst e
    exact I1.fpOk (Nat.le_refl _) (I1.hok.fresh (Nat.le_refl _))
  · subst ex
    cases r1
    obtain ⟨its, rv, p, hz⟩ := I1.tuple hq
    refine wpAny_pyIter_tuple (show s1.heap.IsTuple a its.toArray from p) ?_
    refine ⟨s1.heap.objs.size, [s1.heap.objs.size], _, _, H1, rfl, I1.kept (t' := s1.toks) fun b o e => Heap.get?_push_of_some _ e, turn_tuple a _, ⟨_, Heap.get?_push_size _ rfl, rfl, rfl⟩, fun b hb => ?_, q⟩
    have e : b = s1.heap.objs.size := by simpa using hb
    subst e
    exact I1.fpOk (Nat.le_refl _) (I1.hok.fresh (Nat.le_refl _))
  · subst ex
    obtain ⟨t, rfl⟩ := r1
    cases ha : y.cps.all (· < 128)
    · exact wpAny_pyIter_wide ha (pi_one (tk := s1.toks) I1 _ (turn_str _ y t "str_iterator" (.inr rfl)) ⟨_, Heap.get?_push_size _ rfl, rfl, rfl⟩ q)
    · exact wpAny_pyIter_ascii ha (pi_one (tk := s1.toks) I1 _ (turn_str _ y t "str_ascii_iterator" (.inl rfl)) ⟨_, Heap.get?_push_size _ rfl, rfl, rfl⟩ q)
def charsD (y : Str) : List D := y.cps.toList.map fun c => .str ⟨#[c]⟩
abbrev tt1 : Ow → Prop := fun _ => True
/-- the items of a datum that is walked -/
abbrev itemsD (O : Ow) : D → (IL → Prop) → Prop
  | .lst xs, Q => Q (tt1, xs)
  | .tup xs, Q => Q (tt1, xs)
  | .str y, Q => Q (tt1, charsD y)
  | .opq (.ref p), Q => ∃ xs, O p = some (.lst xs) ∧ Q (fun O => O p = some (.lst xs), xs)
  | _, _ => False
theorem itemsD_mo {x : D} {Q Q' : IL → Prop} (h : ∀ d, Q d → Q' d) (z : itemsD O x Q) : itemsD O x Q' := by
  unfold itemsD at z ⊢
  split at z
  · exact h _ z
  · exact h _ z
  · exact h _ z
  · obtain ⟨xs, e, z⟩ := z; exact ⟨xs, e, h _ z⟩
  · exact z
abbrev dIter (m : DE) : DI := fun ρ O Q E => m ρ O (fun x O1 => itemsD O1 x fun l => Q l O1) E
theorem mo_iter (h : Mo m) : Mo (dIter m) := fun ρ O Q Q' E E' q hx x => h ρ _ _ _ _ _ (fun _ _ z => itemsD_mo (fun _ => q _ _) z) hx x
theorem getElem?_lt {α : Type} {l : List α} {i : Nat} {x : α} (h : l[i]? = some x) : i < l.length := by
  rcases Nat.lt_or_ge i l.length with q | q
  · exact q
  · rw [List.getElem?_eq_none q] at h; cases h
theorem itd_tup {a : Addr} {vs : List V} {ds : List D} {G0 : Hp} (s : SqT K G0 a vs) (r : RpL K G0 vs ds) : ItD K B G0 (Itt K a) (I, ds) := fun i O G H g sb _ => by
  refine ⟨fun d e => ?_, fun h => ⟨vs, g.sub.sqT (sb.sqT s), by rw [r.length]; exact Nat.le_of_eq h.symm⟩⟩
  obtain ⟨v, ev, rv⟩ := r.get e
  refine ⟨⟨vs, v, g.sub.sqT (sb.sqT s), ev⟩, fun x H' y => ?_⟩
  obtain ⟨rfl, y⟩ := y
  have := y vs (g.sub.sqT (sb.sqT s))
  rw [ev] at this
  cases this
  exact ⟨G, Step.refl g, rv.mono sb⟩
theorem itd_lst {a : Addr} {ds : List D} {G0 : Hp} (s : ∀ O G H, Good K B O G H → Sub G0 G → I O → ∃ vs, H a = some (.lst vs) ∧ RpL K G vs ds) : ItD K B G0 (Itl K a) (I, ds) := fun i O G H g sb hI => by
  obtain ⟨vs, e0, r⟩ := s O G H g sb hI
  have sq : SqL K H a vs := .inl (.inl e0)
  refine ⟨fun d e => ?_, fun h => ⟨vs, sq, by rw [r.length]; exact Nat.le_of_eq h.symm⟩⟩
  obtain ⟨v, ev, rv⟩ := r.get e
  refine ⟨⟨vs, v, sq, ev⟩, fun x H' y => ?_⟩
  obtain ⟨rfl, y⟩ := y
  have := y vs sq
  rw [ev] at this
  cases this
  exact ⟨G, Step.refl g, rv⟩
theorem itd_str {y : Str} {G0 : Hp} : ItD K B G0 (Its y) (I, charsD y) := fun i O G H g sb _ => by
  have hl : (charsD y).length = y.cps.size := by simp [charsD]
  refine ⟨fun d e => ?_, fun (h : i = (charsD y).length) => by rw [hl] at h; exact Nat.le_of_eq h.symm⟩
  have hi : i < y.cps.size := by rw [← hl]; exact getElem?_lt e
  refine ⟨hi, fun x H' q => ?_⟩
  obtain ⟨rfl, c, ec, rfl⟩ := q
  have e2 : (charsD y)[i]? = some (.str ⟨#[c]⟩) := by
    simp only [charsD, List.getElem?_map, Array.getElem?_toList, ec, Option.map_some]
  have e : (charsD y)[i]? = some d := e
  rw [e2] at e
  cases e
  exact ⟨G, Step.refl g, .str _⟩
theorem d_iter (h : DPE X L e m) : DPI X L tg e (dIter m) := by
  refine ⟨mo_iter h.mo, pi_imp (pi_any h.run) fun σ H Q ⟨G, O, ρ, g, rs, q⟩ => ?_⟩
  refine up_of h.mo g rs q fun x v O1 G1 H1 q1 s1 r1 => ?_
  cases r1 with
  | lst sq rl => exact .inl ⟨_, rfl, ⟨_, s1.good.sub.lstL sq⟩, q1 _ _ _ s1 (itd_lst fun O G H g sb _ => ⟨_, g.sub _ _ (sb _ _ sq), rl.mono sb⟩)⟩
  | tup sq rl => exact .inr (.inl ⟨_, rfl, ⟨_, s1.good.sub.sqT sq⟩, q1 _ _ _ s1 (itd_tup sq rl)⟩)
  | str y => exact .inr (.inr ⟨_, rfl, q1 _ _ _ s1 itd_str⟩)
  | opq v =>
    cases v with
    | ref p =>
      obtain ⟨xs, e, q1⟩ := q1
      obtain ⟨vs, ev, rv⟩ := (s1.good.own p _ e).2.2
      refine .inl ⟨_, rfl, ⟨_, .inl (.inl ev)⟩, q1 _ _ _ s1 (itd_lst fun O G H g sb hI => (g.own p _ hI).2.2)⟩
    | _ => exact q1.elim
  | non => exact q1.elim
  | bl => exact q1.elim
  | int => exact q1.elim
  | dic => exact q1.elim
  | ins => exact q1.elim
  | exc => exact q1.elim
  | lam => exact q1.elim
  | nk => exact q1.elim
/-- range -/
def rngD (lo : Int) (n : Nat) : List D := (List.range n).map fun (i : Nat) => .int (lo + (i : Int))
theorem itd_rng {lo : Int} {n : Nat} {G0 : Hp} : ItD K B G0 (Itr lo n) (I, rngD lo n) := fun i O G H g sb _ => by
  have hl : (rngD lo n).length = n := by simp [rngD]
  refine ⟨fun d e => ?_, fun (h : i = (rngD lo n).length) => by rw [hl] at h; exact Nat.le_of_eq h.symm⟩
  have hi : i < n := by rw [← hl]; exact getElem?_lt e
  refine ⟨hi, fun x H' q => ?_⟩
  obtain ⟨rfl, rfl⟩ := q
  have e2 : (rngD lo n)[i]? = some (.int (lo + i)) := by
    simp only [rngD, List.getElem?_map, List.getElem?_range hi, Option.map_some]
  have e : (rngD lo n)[i]? = some d := e
  rw [e2] at e
  cases e
  exact ⟨G, Step.refl g, .int _⟩
abbrev rng1D : List D → (IL → Prop) → Prop
  | [.int j], Q => -(2 ^ 62) ≤ j ∧ j < 2 ^ 62 ∧ Q (tt1, rngD 0 j.toNat)
  | _, _ => False
theorem rng1D_mo {x : List D} {Q Q' : IL → Prop} (h : ∀ d, Q d → Q' d) (z : rng1D x Q) : rng1D x Q' := by
  unfold rng1D at z ⊢
  split at z
  · exact ⟨z.1, z.2.1, h _ z.2.2⟩
  · exact z
abbrev dRng1 (mA : DA) : DI := fun ρ O Q E => mA ρ O (fun xs O1 => rng1D xs fun l => Q l O1) E
theorem d_rng1 (hg : Gl X "range") (hm : X.mg "range" = none) (ha : DPA X L [a] mA) (hs : starEach [a] X.env = [(false, eval a X.env)]) : DPI X L tg (.Call (.Name "range" p) [a] [] pos) (dRng1 mA) := by
  refine ⟨fun ρ O Q Q' E E' q hx x => ha.mo ρ _ _ _ _ _ (fun _ _ z => rng1D_mo (fun _ => q _ _) z) hx x, pi_imp (pi_range1 hg hm ha.run hs) fun σ H Q ⟨G, O, ρ, g, rs, q⟩ => ?_⟩
  refine upA_of ha.mo g rs q fun xs vs O1 G1 H1 q1 s1 r1 => ?_
  unfold rng1D at q1
  split at q1
  · cases r1 with
    | cons r2 r3 =>
      cases r3
      cases r2
      exact ⟨_, rfl, q1.1, q1.2.1, q1.2.2 _ _ _ s1 itd_rng⟩
  · exact q1.elim
end
abbrev DG := D → Slots → (Slots → Prop) → Prop
def MoG (g : DG) : Prop := ∀ d ρ Q Q', (∀ r, Q r → Q' r) → g d ρ Q → g d ρ Q'
/-- but for the slots is they are as they were -/
def Off (is : List Nat) (σ σ' : L2.St) : Prop := σ'.length = σ.length ∧ ∀ j : Nat, j ∉ is → σ'[j]? = σ[j]?
theorem Off.refl (is : List Nat) (σ : L2.St) : Off is σ σ := ⟨rfl, fun _ _ => rfl⟩
theorem Off.trans {is js : List Nat} {σ σ' σ'' : L2.St} (a : Off is σ σ') (b : Off js σ' σ'') : Off (is ++ js) σ σ'' :=
  ⟨b.1.trans a.1, fun j h => (b.2 j fun z => h (List.mem_append_right _ z)).trans (a.2 j fun z => h (List.mem_append_left _ z))⟩
def upG (K : PySem.W.Frag) (B : Bo) (is : List Nat) (g : DG) : TG := fun v σ H Q => ∃ G O ρ d, Good K B O G H ∧ RpS K G σ ρ ∧ Rp K G v d ∧ g d ρ (fun ρ' => ∀ σ', RpS K G σ' ρ' → Off is σ σ' → Q σ' H)
structure DPG (X : Cx) (L : Pl) (tg : Expr) (is : List Nat) (g : DG) : Prop where
  mo : MoG g
  run : PG X tg (upG X.K L.B is g)
abbrev DGs := List D → Slots → (Slots → Prop) → Prop
def upGs (K : PySem.W.Frag) (B : Bo) (is : List Nat) (g : DGs) : TGs := fun vs σ H Q => ∃ G O ρ ds, Good K B O G H ∧ RpS K G σ ρ ∧ RpL K G vs ds ∧ g ds ρ (fun ρ' => ∀ σ', RpS K G σ' ρ' → Off is σ σ' → Q σ' H)
structure DPGs (X : Cx) (L : Pl) (tg : List Expr) (is : List Nat) (g : DGs) : Prop where
  mo : ∀ d ρ Q Q', (∀ r, Q r → Q' r) → g d ρ Q → g d ρ Q'
  run : PGs X tg (upGs X.K L.B is g)
section
variable {X : Cx} {L : Pl} {e a b c tg : Expr} {es rest : List Expr} {m ma mb mc : DE} {mt mu : DT} {mA : DA} {pos p : Pos}
variable {K : PySem.W.Frag} {B : Bo} {O : Ow} {W : L2.St → XK} {G H : Hp} {σ : L2.St} {ρ : Slots} {I : Ow → Prop}
theorem pg_imp {t t' : TG} (h : PG X tg t) (i : ∀ v σ H Q, t' v σ H Q → t v σ H Q) : PG X tg t' := ⟨fun pins s σ H v u Q I r q => h.run pins s σ H v u Q I r (i _ _ _ _ q)⟩
theorem pgs_imp {t t' : TGs} (h : PGs X es t) (i : ∀ v σ H Q, t' v σ H Q → t v σ H Q) : PGs X es t' := ⟨fun pins s σ H v u Q I r q => h.run pins s σ H v u Q I r (i _ _ _ _ q)⟩
def dgName (i : Nat) : DG := fun d ρ Q => Q (ρ.set i (.sh d))
/-- a slot set to a visible thing -/
theorem RpS.set {i : Nat} {v : V} {d : D} (r : RpS K G σ ρ) (h : Rp K G v d) : RpS K G (σ.set i (some v)) (ρ.set i (.sh d)) := by
  refine ⟨by rw [List.length_set, List.length_set]; exact r.len, fun j x e => ?_⟩
  by_cases ij : i = j
  · subst ij
    have hl := getElem?_lt e
    rw [List.length_set] at hl
    rw [List.getElem?_set_self hl] at e
    cases e
    exact ⟨v, List.getElem?_set_self (by rw [r.len]; exact hl), h⟩
  · rw [List.getElem?_set_ne ij] at e ⊢
    exact r.sh j x e
theorem dg_name {i : Nat} {x : Str} (hN : X.N.Nodup) (hi : X.N[i]? = some x) (hx : Loc X.env.scope x) (hf : X.fn x = true ∨ X.env.scope.names.lookup x = some .local) : DPG X L (.Name x pos) [i] (dgName i) :=
  ⟨fun d ρ Q Q' h z => h _ z, pg_imp (pg_name hN hi hx hf) fun v σ H Q ⟨G, O, ρ, d, g, rs, r, q⟩ => q _ (rs.set r) ⟨List.length_set .., fun j h => List.getElem?_set_ne (fun z => h (by simp [z]))⟩⟩
abbrev dgNil : DGs := fun ds ρ Q => match ds with
  | [] => Q ρ
  | _ => False
abbrev dgCons (g : DG) (gs : DGs) : DGs := fun ds ρ Q => match ds with
  | d :: r => g d ρ fun ρ' => gs r ρ' Q
  | [] => False
theorem dgs_nil : DPGs X L [] [] dgNil := by
  refine ⟨fun d ρ Q Q' h z => by cases d <;> first | exact h _ z | exact z, pgs_imp pgs_nil fun v σ H Q ⟨G, O, ρ, d, g, rs, r, q⟩ => ?_⟩
  cases r with
  | nil => exact ⟨rfl, q σ rs (Off.refl _ _)⟩
  | cons _ _ => exact q.elim
theorem dgs_cons {g : DG} {gs : DGs} {is js : List Nat} (hg : DPG X L e is g) (hs : DPGs X L es js gs) (h1 : (assignEach (e :: es) X.env).map (·.2) = assign e X.env :: (assignEach es X.env).map (·.2)) : DPGs X L (e :: es) (is ++ js) (dgCons g gs) := by
  refine ⟨fun d ρ Q Q' h z => ?_, pgs_imp (pgs_cons hg.run hs.run h1) fun v σ H Q ⟨G, O, ρ, d, gd, rs, r, q⟩ => ?_⟩
  · cases d with
    | nil => exact z
    | cons x xs => exact hg.mo _ _ _ _ (fun _ y => hs.mo _ _ _ _ h y) z
  · cases r with
    | nil => exact q.elim
    | cons r1 r2 =>
      refine ⟨_, _, rfl, G, O, ρ, _, gd, rs, r1, hg.mo _ _ _ _ (fun ρ' z σ' rs' o1 => ?_) q⟩
      exact ⟨G, O, ρ', _, gd, rs', r2, hs.mo _ _ _ _ (fun ρ2 y σ2 rs2 o2 => y σ2 rs2 (o1.trans o2)) z⟩
abbrev dgTup (n : Nat) (gs : DGs) : DG := fun d ρ Q => match d with
  | .tup xs => xs.length = n ∧ gs xs ρ Q
  | _ => False
theorem dg_tup {k n : Nat} {gs : DGs} {is : List Nat} (hc : X.calm = true) (h : DPGs X L es is gs) (hn : (assignEach es X.env).length = n) (hst : (assignEach es X.env).findIdx? (·.1) = none) : DPG X L (.Tuple es k pos) is (dgTup n gs) := by
  refine ⟨fun d ρ Q Q' h' z => ?_, pg_imp (pg_tup hc h.run hn hst) fun v σ H Q ⟨G, O, ρ, d, gd, rs, r, q⟩ => ?_⟩
  · unfold dgTup at z ⊢
    split at z
    · exact ⟨z.1, h.mo _ _ _ _ h' z.2⟩
    · exact z
  · unfold dgTup at q
    split at q
    · cases r with
      | tup sq rl => exact ⟨_, _, rfl, gd.sub.sqT sq, by rw [rl.length]; exact q.1, G, O, ρ, _, gd, rs, rl, q.2⟩
    · exact q.elim
def wipeD (ρ : Slots) : List Nat → Slots
  | [] => ρ
  | v :: vs => (wipeD ρ vs).set v .un
theorem RpS.wipe (r : RpS K G σ ρ) : ∀ vs : List Nat, RpS K G (L2.wipe σ vs) (wipeD ρ vs)
  | [] => r
  | v :: vs => by
    have q := RpS.wipe r vs
    unfold L2.wipe wipeD
    refine ⟨by rw [List.length_set, List.length_set]; exact q.len, fun j x e => ?_⟩
    by_cases ij : v = j
    · subst ij
      have hl := getElem?_lt e
      rw [List.length_set] at hl
      rw [List.getElem?_set_self hl] at e
      cases e
    · rw [List.getElem?_set_ne ij] at e ⊢
      exact q.sh j x e
/-- the turns of a comprehension; acc: what is gathered -/
def lcW (I : Ow → Prop) (g : DG) (tt : DT) (te : DE) (ρ : Slots) : List D → List D → Ow → (List D → Ow → Prop) → Prop
  | [], acc, O, Q => I O ∧ Q acc O
  | d :: ds, acc, O, Q => I O ∧ g d ρ fun ρ' => tt ρ' O (fun c O1 => bc c (te ρ' O1 (fun y O2 => acc.length < sizeLine ∧ lcW I g tt te ρ ds (acc ++ [y]) O2 Q) (fun _ _ => False)) (lcW I g tt te ρ ds acc O1 Q)) (fun _ _ => False)
theorem lcW_mo {g : DG} {tt : DT} {te : DE} (hg : MoG g) (ht : Mo tt) (he : Mo te) {ρ : Slots} {Q Q' : List D → Ow → Prop} (h : ∀ d O, Q d O → Q' d O) : ∀ {ds acc : List D} {O : Ow}, lcW I g tt te ρ ds acc O Q → lcW I g tt te ρ ds acc O Q'
  | [], _, _, z => ⟨z.1, h _ _ z.2⟩
  | d :: ds, acc, _, z => ⟨z.1, hg _ _ _ _ (fun ρ' z1 => ht _ _ _ _ _ _ (fun c _ z2 => by
      cases c with
      | true => exact (he _ _ _ _ _ _ (fun y _ z3 => ⟨z3.1, lcW_mo hg ht he h z3.2⟩) (fun _ _ x => x) z2)
      | false => exact (lcW_mo hg ht he h z2)) (fun _ _ x => x) z1) z.2⟩
abbrev dLc (mi : DI) (g : DG) (tt : DT) (te : DE) (vs : List Nat) : DE := fun ρ O Q E => mi ρ O (fun x O1 => lcW x.1 g tt te (wipeD ρ vs) x.2 [] O1 fun l O2 => Q (.lst l) O2) E
theorem mo_lc {mi : DI} {g : DG} {tt : DT} {te : DE} {vs : List Nat} (hi : Mo mi) (hg : MoG g) (ht : Mo tt) (he : Mo te) : Mo (dLc mi g tt te vs) := fun ρ O Q Q' E E' q hx x =>
  hi ρ _ _ _ _ _ (fun _ _ z => lcW_mo hg ht he (fun _ => q _) z) hx x
structure DPTs (X : Cx) (L : Pl) (ifs : List Expr) (m : DT) : Prop where
  mo : Mo m
  run : PTs X ifs (upT X.K L.B L.W m)
abbrev dYes : DT := fun _ O Q _ => Q true O
theorem pts_imp {ifs : List Expr} {t t' : TT} (h : PTs X ifs t) (i : ∀ σ H Q, t' σ H Q → t σ H Q) : PTs X ifs t' := ⟨fun pins s σ H Q I q => h.run pins s σ H Q I (i _ _ _ q)⟩
theorem d_ifs0 : DPTs X L [] dYes := ⟨fun _ _ _ _ _ _ q _ x => q _ _ x, pts_imp pts_nil fun σ H Q ⟨G, O, ρ, g, rs, q⟩ => q _ _ (Step.refl g)⟩
theorem d_ifs1 (h : DPT X L c mt) : DPTs X L [c] mt := ⟨h.mo, pts_one h.run⟩
/-- the place within a comprehension: nothing is raised out of it -/
abbrev Pl.blk (L : Pl) : Pl := { L with W := fun _ _ _ _ => False }
theorem wipe_get {σ : L2.St} {j : Nat} : ∀ {vs : List Nat}, (L2.wipe σ vs)[j]? = if j ∈ vs ∧ j < σ.length then some none else σ[j]?
  | [] => by simp [L2.wipe]
  | v :: vs => by
    unfold L2.wipe
    by_cases hj : v = j
    · subst hj
      by_cases hl : v < σ.length
      · rw [List.getElem?_set_self (by rw [wipe_length]; exact hl), if_pos ⟨List.mem_cons_self, hl⟩]
      · rw [List.getElem?_eq_none (by rw [List.length_set, wipe_length]; omega), if_neg (fun z => hl z.2), List.getElem?_eq_none (by omega)]
    · rw [List.getElem?_set_ne hj, wipe_get (vs := vs)]
      by_cases hm : j ∈ vs ∧ j < σ.length
      · rw [if_pos hm, if_pos ⟨List.mem_cons_of_mem _ hm.1, hm.2⟩]
      · rw [if_neg hm, if_neg (fun z => hm ⟨by
          rcases List.mem_cons.mp z.1 with q | q
          · exact absurd q.symm hj
          · exact q, z.2⟩)]
theorem wipe_off {σ σ2 : L2.St} {is vs : List Nat} (o : Off is (L2.wipe σ vs) σ2) (h : ∀ i ∈ is, i ∈ vs) : L2.wipe σ2 vs = L2.wipe σ vs := by
  have hl : σ2.length = σ.length := by rw [o.1, wipe_length]
  refine List.ext_getElem? fun j => ?_
  rw [wipe_get, wipe_get]
  by_cases hm : j ∈ vs ∧ j < σ.length
  · rw [if_pos hm, if_pos (by rw [hl]; exact hm)]
  · rw [if_neg hm, if_neg (by rw [hl]; exact hm)]
    by_cases hv : j ∈ vs
    · have : σ.length ≤ j := by
        rcases Nat.lt_or_ge j σ.length with q | q
        · exact absurd ⟨hv, q⟩ hm
        · exact q
      rw [List.getElem?_eq_none (by omega), List.getElem?_eq_none (by omega)]
    · rw [o.2 j (fun z => hv (h j z)), wipe_get, if_neg hm]
/-- the gathering of a comprehension, by HandS's reading of it -/
theorem lc_run {σ0 : L2.St} {ρ0 : Slots} {g : DG} {tt : DT} {te : DE} {vs is : List Nat} {J : It} {O0 : Ow} {G0 H0 : Hp} {ds : List D} {Q : VK} {P : List D → Ow → Prop} {Dd : Addr} (hg : MoG g) (ht : Mo tt) (he : Mo te)
    (s0 : Step K B O G H O0 G0 H0) (rs : RpS K G σ0 ρ0) (it : ItD K B G0 J (I, ds)) (h : lcW I g tt te (wipeD ρ0 vs) ds [] O0 P) (nD : H0 Dd = none) (hv : ∀ i ∈ is, i ∈ vs)
    (hP : ∀ acc vacc O1 G1 H1, P acc O1 → Step K B O G H O1 G1 H1 → O1 Dd = none → G1 Dd = none → H Dd = none → H1 Dd = some (.lst vacc) → ¬ Hid B Dd → RpL K G1 vacc acc → Q (.ref Dd) H1) :
    ∃ W : Nat → Nat → Hp → Prop, (∃ m, W 0 m (upd H0 Dd (.lst []))) ∧ ∀ i m H, W i m H →
      (J.stop i H ∧ Q (.ref Dd) H) ∨ (J.go i H ∧ ∃ Nx : Hp → Prop, (∀ H', Nx H' → ∃ m', m' < m ∧ W (i + 1) m' H') ∧ ∀ x H', J.yld i H x H' → upG K B is g x (L2.wipe σ0 vs) H' fun σ2 H2 => L2.wipe σ2 vs = L2.wipe σ0 vs ∧ upT K B (fun _ _ _ _ => False) tt σ2 H2 fun b H3 =>
        if b = true then up K B (fun _ _ _ _ => False) te σ2 H3 fun y H4 => ∃ acc, H4 Dd = some (.lst acc) ∧ acc.length < sizeLine ∧ Nx (upd H4 Dd (.lst (acc ++ [y]))) else Nx H3) := by
  have nb : ¬ Hid B Dd := s0.good.nhid nD
  have nG : G0 Dd = none := s0.good.freshG nD
  have nO : O0 Dd = none := s0.good.fresh nD
  have upk : ∀ {O1 : Ow} {G1 H1 : Hp} (l : List V), Good K B O1 G1 H1 → G1 Dd = none → O1 Dd = none → (∀ φ, H1 Dd ≠ some (.ext φ)) → Good K B O1 G1 (upd H1 Dd (.lst l)) := fun {O1 G1 H1} l gd n1 n2 n3 => by
    refine ⟨fun a o e => ?_, fun b l T e => ?_, gd.amb, fun p d e => ?_⟩
    · rw [upd_ne (fun z => by rw [z, n1] at e; cases e)]; exact gd.sub a o e
    · refine (gd.box b l T e).step (Sub.refl _) (fun a ha => gd.hidG ⟨b, l, T, e, ha⟩) fun a o ha h => ?_
      rw [upd_ne (fun z => nb (by rw [← z]; exact ⟨b, l, T, e, ha⟩))]
      exact h
    · obtain ⟨a, b, c⟩ := gd.own p d e
      exact ⟨a, b, c.mono (Sub.refl _) fun o h => by rw [upd_ne (fun z => by rw [z, n2] at e; cases e)]; exact h⟩
  by_cases hHD : ∃ o, H Dd = some o
  · -- it was there at first and is no more: so it was one's own, and is dropped
    obtain ⟨o, eo⟩ := hHD
    exfalso
    cases eO : O Dd with
    | none => have := s0.keep _ _ eo nb eO; rw [nD] at this; cases this
    | some d => exact absurd nD (s0.still _ (by rw [eo]; exact Option.some_ne_none _))
  have nH : H Dd = none := by
    cases e : H Dd with
    | none => rfl
    | some o => exact absurd ⟨o, e⟩ hHD
  refine ⟨fun i m H1 => ∃ G1 O1 acc vacc, m = ds.length - i ∧ i ≤ ds.length ∧ Step K B O G H O1 G1 H1 ∧ Sub G0 G1 ∧ G1 Dd = none ∧ O1 Dd = none ∧ H1 Dd = some (.lst vacc) ∧ RpL K G1 vacc acc ∧ lcW I g tt te (wipeD ρ0 vs) (ds.drop i) acc O1 P, ⟨ds.length, G0, O0, [], [], by simp, Nat.zero_le _, ?_, Sub.refl _, nG, nO, upd_same, .nil, by simpa using h⟩, ?_⟩
  · exact ⟨s0.grow, upk [] s0.good nG nO (fun φ z => by rw [nD] at z; cases z), fun a o e n z => by rw [upd_ne (fun z => by rw [z, nH] at e; cases e)]; exact s0.keep a o e n z, s0.hid, fun a h => upd_still a (s0.still a h)⟩
  · rintro i m H1 ⟨G1, O1, acc, vacc, rfl, hi, st, sb, gD, oD, hD, ra, hl⟩
    rcases Nat.lt_or_ge i ds.length with hlt | hge
    · have ei : ds[i]? = some ds[i] := List.getElem?_eq_getElem hlt
      have ed : ds.drop i = ds[i] :: ds.drop (i + 1) := List.drop_eq_getElem_cons hlt
      rw [ed] at hl
      obtain ⟨hI, hl⟩ := hl
      obtain ⟨go, yl⟩ := (it i O1 G1 H1 st.good sb hI).1 _ ei
      refine .inr ⟨go, fun H2 => ∃ G2 O2 acc vacc, Step K B O G H O2 G2 H2 ∧ Sub G0 G2 ∧ G2 Dd = none ∧ O2 Dd = none ∧ H2 Dd = some (.lst vacc) ∧ RpL K G2 vacc acc ∧ lcW I g tt te (wipeD ρ0 vs) (ds.drop (i + 1)) acc O2 P, fun H2 ⟨G2, O2, acc2, vacc2, a, b, c, c', d, e, f⟩ => ⟨ds.length - (i + 1), by omega, G2, O2, acc2, vacc2, rfl, by omega, a, b, c, c', d, e, f⟩, fun x H2 y => ?_⟩
      obtain ⟨G2, s2, rx⟩ := yl x H2 y
      have st2 := st.trans s2
      have gD2 : G2 Dd = none := (s2.hid _ _ hD gD oD).1
      have hD2 : H2 Dd = some (.lst vacc) := s2.keep _ _ hD nb oD
      refine ⟨G2, O1, wipeD ρ0 vs, ds[i], s2.good, (rs.step st2).wipe vs, rx, hg _ _ _ _ (fun ρ' z σ2 rs2 o2 => ⟨wipe_off o2 hv, ?_⟩) hl⟩
      refine ⟨G2, O1, ρ', s2.good, rs2, ht _ _ _ _ _ _ (fun c O3 z2 G3 H3 s3 => ?_) (fun _ _ x => x.elim) z⟩
      have st3 := st2.trans s3
      have gD3 := s3.hid _ _ hD2 gD2 oD
      have hD3 : H3 Dd = some (.lst vacc) := s3.keep _ _ hD2 nb oD
      cases c with
      | false => exact iteF ⟨G3, O3, acc, vacc, st3, (sb.trans s2.grow).trans s3.grow, gD3.1, gD3.2, hD3, ra.mono (s2.trans s3).grow, z2⟩
      | true =>
        refine iteT ⟨G3, O3, ρ', s3.good, rs2.step s3, he _ _ _ _ _ _ (fun y O4 z3 vy G4 H4 s4 ry => ?_) (fun _ _ x => x.elim) z2⟩
        have st4 := st3.trans s4
        have gD4 := s4.hid _ _ hD3 gD3.1 gD3.2
        have hD4 : H4 Dd = some (.lst vacc) := s4.keep _ _ hD3 nb gD3.2
        have ra4 : RpL K G4 vacc acc := ra.mono ((s2.trans s3).trans s4).grow
        refine ⟨vacc, hD4, by rw [ra4.length]; exact z3.1, G4, O4, acc ++ [y], vacc ++ [vy], ?_, ((sb.trans s2.grow).trans s3.grow).trans s4.grow, gD4.1, gD4.2, upd_same, ra4.append (.cons ry .nil), z3.2⟩
        exact ⟨st4.grow, upk _ s4.good gD4.1 gD4.2 (fun φ z => by rw [hD4] at z; cases z), fun a o e n z => by rw [upd_ne (fun z => by rw [z, nH] at e; cases e)]; exact st4.keep a o e n z, st4.hid, fun a h => upd_still a (st4.still a h)⟩
    · rw [List.drop_eq_nil_of_le hge] at hl
      obtain ⟨hI, hl⟩ := hl
      exact .inl ⟨(it i O1 G1 H1 st.good sb hI).2 (show i = ds.length by omega), hP acc vacc O1 G1 H1 hl st oD gD nH hD nb ra⟩
theorem lc_show {Q : VK} (acc : List D) (vacc : List V) (O1 : Ow) (G1 H1 : Hp) {Dd : Addr} (h : kv K B O G H Q (.lst acc) O1) (st : Step K B O G H O1 G1 H1) (oD : O1 Dd = none) (gD : G1 Dd = none) (nH : H Dd = none) (hD : H1 Dd = some (.lst vacc)) (nb : ¬ Hid B Dd) (ra : RpL K G1 vacc acc) : Q (.ref Dd) H1 := by
  have gr : Sub G1 (upd G1 Dd (.lst vacc)) := fun a o e => by rw [upd_ne (fun z => by rw [z, gD] at e; cases e)]; exact e
  have key : Step K B O G H O1 (upd G1 Dd (.lst vacc)) H1 := by
    refine ⟨st.grow.trans gr, ⟨fun a o e => ?_, fun b l T e => ?_, st.good.amb.trans gr, fun p d e => ?_⟩, st.keep, fun a o e n z => ?_, st.still⟩
    · by_cases z : a = Dd
      · subst z; rw [upd_same] at e; cases e; exact hD
      · rw [upd_ne z] at e; exact st.good.sub a o e
    · refine (st.good.box b l T e).step gr (fun a ha => ?_) fun a o _ h => h
      have ha : Hid B a := ⟨b, l, T, e, ha⟩
      rw [upd_ne (fun z => nb (by rw [← z]; exact ha))]; exact st.good.hidG ha
    · obtain ⟨a, b, c⟩ := st.good.own p d e
      exact ⟨by rw [upd_ne (fun z => by rw [z, oD] at e; cases e)]; exact a, b, c.mono gr fun _ h => h⟩
    · have := st.hid a o e n z
      exact ⟨by rw [upd_ne (fun z => by rw [z, nH] at e; cases e)]; exact this.1, this.2⟩
  exact h (.ref Dd) _ H1 key (.lst upd_same (ra.mono gr))
theorem in_of {is : List Nat} {vs : List Nat} (hv : is.all (fun i => vs.contains i) = true) (i : Nat) (hi : i ∈ is) : i ∈ vs := by
  have := List.all_eq_true.mp hv i hi
  simpa using this
theorem d_lc {elt tg iter : Expr} {ifs : List Expr} {scope : Scope} {own : List (Str × Nat)} {is : List Nat} {mi : DI} {g : DG} {tt : DT} {te : DE} (hc : X.calm = true) (hN : X.N.Nodup) (hi : DPI X L tg iter mi) (ok : BlkOk X.N X.env.scope scope own)
    (hg : ∀ (s : Shared) (H : Hp) (C : Addr) (cl : List (Str × Addr)) (fp : List Addr), DPG (X.blk s H scope (compEnvC scope cl C X.env) fp) L.blk tg is g)
    (ht : ∀ (s : Shared) (H : Hp) (C : Addr) (cl : List (Str × Addr)) (fp : List Addr), DPTs (X.blk s H scope (compEnvC scope cl C X.env) fp) L.blk ifs tt)
    (he : ∀ (s : Shared) (H : Hp) (C : Addr) (cl : List (Str × Addr)) (fp : List Addr), DPE (X.blk s H scope (compEnvC scope cl C X.env) fp) L.blk elt te)
    (hv : is.all (fun i => (own.map (·.2)).contains i) = true) (hs : ∀ x, foldedSetIterable iter X.env x = pure x) :
    DPE X L (.ListComp elt [⟨tg, iter, ifs, 0⟩] scope pos) (dLc mi g tt te (own.map (·.2))) := by
  have mg := (hg X.s_0 X.H_0 0 [] []).mo
  have mt := (ht X.s_0 X.H_0 0 [] []).mo
  have me := (he X.s_0 X.H_0 0 [] []).mo
  refine ⟨mo_lc hi.mo mg mt me, pe_imp (pe_lc (g := upG X.K L.B is g) (tt := upT X.K L.B (fun _ _ _ _ => False) tt) (te := up X.K L.B (fun _ _ _ _ => False) te) hc hN hi.run ok (fun s H C cl fp => (hg s H C cl fp).run) (fun s H C cl fp => (ht s H C cl fp).run) (fun s H C cl fp => (he s H C cl fp).run) hs) fun σ H Q ⟨G, O, ρ, gd, rs, q⟩ => ?_⟩
  refine ⟨G, O, ρ, gd, rs, hi.mo ρ _ _ _ _ _ (fun x O1 z J G1 H1 s1 it Dd nD => ?_) (fun _ _ x => x) q⟩
  exact lc_run mg mt me s1 rs it z nD (in_of hv) fun acc vacc O1 G1 H1 p st a b c d e f => lc_show acc vacc O1 G1 H1 p st a b c d e f
end
end EV
set_option Elab.async false
set_option linter.all false
set_option maxRecDepth 100000
set_option maxHeartbeats 4000000
namespace EV
open PySem PySem.Spec PyProof.Rows L2
structure DEnds where
  nx : Slots → Ow → Prop
  rt : D → Ow → Prop
  bk : Slots → Ow → Prop := fun _ _ => False
  ct : Slots → Ow → Prop := fun _ _ => False
  ex : Xc → Slots → Ow → Prop := fun _ _ _ => False
structure DEnds.Le (A A' : DEnds) : Prop where
  nx : ∀ r O, A.nx r O → A'.nx r O
  rt : ∀ r O, A.rt r O → A'.rt r O
  bk : ∀ r O, A.bk r O → A'.bk r O
  ct : ∀ r O, A.ct r O → A'.ct r O
  ex : ∀ x r O, A.ex x r O → A'.ex x r O
abbrev DS := DEnds → Slots → Ow → Prop
def MoS (m : DS) : Prop := ∀ A A' ρ O, DEnds.Le A A' → m A ρ O → m A' ρ O
def dn (K : PySem.W.Frag) (L : Pl) (O : Ow) (G H : Hp) (Dn : Ends) : DEnds where
  nx := fun ρ O' => ∀ σ' G' H', Step K L.B O G H O' G' H' → RpS K G' σ' ρ → Dn.nx σ' H'
  rt := fun d O' => ∀ v G' H', Step K L.B O G H O' G' H' → Rp K G' v d → Dn.rt v H'
  bk := fun ρ O' => ∀ σ' G' H', Step K L.B O G H O' G' H' → RpS K G' σ' ρ → Dn.bk σ' H'
  ct := fun ρ O' => ∀ σ' G' H', Step K L.B O G H O' G' H' → RpS K G' σ' ρ → Dn.ct σ' H'
  ex := fun x ρ O' => ∀ σ' d fs G' H', Step K L.B O G H O' G' H' → RpS K G' σ' ρ → G' d = some (.xd fs) → RpF K G' fs x.2 → L.W σ' (.ref x.1) (some d) H'
def upS (K : PySem.W.Frag) (L : Pl) (m : DS) : TS := fun Dn σ H => ∃ G O ρ, Good K L.B O G H ∧ RpS K G σ ρ ∧ m (dn K L O G H Dn) ρ O
structure DPS (X : Cx) (L : Pl) (st : Stmt) (m : DS) : Prop where
  mo : MoS m
  run : PS X st (upS X.K L m)
structure DPSs (X : Cx) (L : Pl) (st : List Stmt) (m : DS) : Prop where
  mo : MoS m
  run : PSs X st (upS X.K L m)
section
variable {X : Cx} {L : Pl} {e a b c tg : Expr} {es rest : List Expr} {m ma mb mc : DE} {mt mu : DT} {mA : DA} {pos p : Pos} {st : Stmt} {sts : List Stmt} {ms mv : DS}
variable {K : PySem.W.Frag} {O O' : Ow} {G H G' H' : Hp} {σ : L2.St} {ρ : Slots}
theorem ps_imp {t t' : TS} (h : PS X st t) (i : ∀ Dn σ H, t' Dn σ H → t Dn σ H) : PS X st t' := ⟨fun pins s σ H Dn I q => h.run pins s σ H Dn I (i _ _ _ q)⟩
theorem pss_imp {t t' : TS} (h : PSs X sts t) (i : ∀ Dn σ H, t' Dn σ H → t Dn σ H) : PSs X sts t' := ⟨fun pins s σ H Dn I q => h.run pins s σ H Dn I (i _ _ _ q)⟩
theorem dn_step {Dn : Ends} (s : Step K L.B O G H O' G' H') : DEnds.Le (dn K L O G H Dn) (dn K L O' G' H' Dn) :=
  ⟨fun _ _ h σ' G2 H2 t r => h σ' G2 H2 (s.trans t) r, fun _ _ h v G2 H2 t r => h v G2 H2 (s.trans t) r, fun _ _ h σ' G2 H2 t r => h σ' G2 H2 (s.trans t) r, fun _ _ h σ' G2 H2 t r => h σ' G2 H2 (s.trans t) r,
    fun _ _ _ h σ' d fs G2 H2 t r a b => h σ' d fs G2 H2 (s.trans t) r a b⟩
/-- the wish of an expression's exceptions, from a statement's -/
theorem kx_of {Dn : Ends} {x : Xc} {O1 : Ow} (rs : RpS K G σ ρ) (h : (dn K L O G H Dn).ex x ρ O1) : kx K L.B O G H (L.W σ) x O1 := fun d fs G' H' s a r => h σ d fs G' H' s (rs.step s) a r
theorem upE {Dn : Ends} {R : VK} {P : QD} (mo : Mo m) (g : Good K L.B O G H) (r : RpS K G σ ρ) (h : m ρ O P (fun x O1 => (dn K L O G H Dn).ex x ρ O1))
    (k : ∀ d v O' G' H', P d O' → Step K L.B O G H O' G' H' → Rp K G' v d → R v H') : up K L.B L.W m σ H R :=
  up_of mo g r (mo ρ _ _ _ _ _ (fun _ _ z => z) (fun x _ z => kx_of r z) h) k
theorem upTE {Dn : Ends} {R : Bool → Hp → Prop} {P : Bool → Ow → Prop} (mo : Mo mt) (g : Good K L.B O G H) (r : RpS K G σ ρ) (h : mt ρ O P (fun x O1 => (dn K L O G H Dn).ex x ρ O1))
    (k : ∀ d O' G' H', P d O' → Step K L.B O G H O' G' H' → R d H') : upT K L.B L.W mt σ H R :=
  upT_of mo g r (mo ρ _ _ _ _ _ (fun _ _ z => z) (fun x _ z => kx_of r z) h) k
theorem upAE {Dn : Ends} {R : List V → Hp → Prop} {P : List D → Ow → Prop} (mo : Mo mA) (g : Good K L.B O G H) (r : RpS K G σ ρ) (h : mA ρ O P (fun x O1 => (dn K L O G H Dn).ex x ρ O1))
    (k : ∀ d v O' G' H', P d O' → Step K L.B O G H O' G' H' → RpL K G' v d → R v H') : upA K L.B L.W mA σ H R :=
  upA_of mo g r (mo ρ _ _ _ _ _ (fun _ _ z => z) (fun x _ z => kx_of r z) h) k
abbrev dNext : DS := fun A ρ O => A.nx ρ O
abbrev dSeq (t u : DS) : DS := fun A ρ O => t { A with nx := u A } ρ O
theorem DEnds.Le.refl (A : DEnds) : DEnds.Le A A := ⟨fun _ _ h => h, fun _ _ h => h, fun _ _ h => h, fun _ _ h => h, fun _ _ _ h => h⟩
theorem mo_next : MoS dNext := fun A A' ρ O l h => l.nx _ _ h
theorem mo_seq (h1 : MoS ms) (h2 : MoS mv) : MoS (dSeq ms mv) := fun A A' ρ O l h => h1 { A with nx := mv A } { A' with nx := mv A' } ρ O ⟨fun r _ z => h2 _ _ _ _ l z, l.rt, l.bk, l.ct, l.ex⟩ h
theorem d_snil : DPSs X L [] dNext := ⟨mo_next, pss_imp pss_nil fun Dn σ H ⟨G, O, ρ, g, rs, q⟩ => q _ _ _ (Step.refl g) rs⟩
theorem d_scons (h1 : DPS X L st ms) (h2 : DPSs X L sts mv) : DPSs X L (st :: sts) (dSeq ms mv) := by
  refine ⟨mo_seq h1.mo h2.mo, pss_imp (pss_cons h1.run h2.run) fun Dn σ H ⟨G, O, ρ, g, rs, q⟩ => ?_⟩
  refine ⟨G, O, ρ, g, rs, h1.mo { dn X.K L O G H Dn with nx := mv (dn X.K L O G H Dn) } _ _ _ ⟨fun r O1 z σ' G' H' s rs' => ?_, fun _ _ z => z, fun _ _ z => z, fun _ _ z => z, fun _ _ _ z => z⟩ q⟩
  exact ⟨G', O1, r, s.good, rs', h2.mo _ _ _ _ (dn_step s) z⟩
theorem d_sone (h1 : DPS X L st ms) : DPSs X L [st] ms := ⟨h1.mo, pss_one h1.run⟩
abbrev dRet (m : DE) : DS := fun A ρ O => m ρ O A.rt (fun x O1 => A.ex x ρ O1)
theorem d_ret (h : DPE X L e m) : DPS X L (.Return (some e) pos) (dRet m) := by
  refine ⟨fun A A' ρ O l z => h.mo _ _ _ _ _ _ l.rt (fun x _ y => l.ex _ _ _ y) z, ps_imp (ps_ret h.run) fun Dn σ H ⟨G, O, ρ, g, rs, q⟩ => ?_⟩
  exact upE h.mo g rs q fun d v O' G' H' z s r => z v G' H' s r
abbrev dDrop (m : DE) : DS := fun A ρ O => m ρ O (fun _ O1 => A.nx ρ O1) (fun x O1 => A.ex x ρ O1)
theorem d_expr (h : DPE X L e m) (hs : swapsWith e none pos.line X.env = pure false) : DPS X L (.Expr e pos) (dDrop m) := by
  refine ⟨fun A A' ρ O l z => h.mo _ _ _ _ _ _ (fun d _ y => l.nx _ _ y) (fun x _ y => l.ex _ _ _ y) z, ps_imp (ps_expr h.run hs) fun Dn σ H ⟨G, O, ρ, g, rs, q⟩ => ?_⟩
  exact upE h.mo g rs q fun d v O' G' H' z s r => z σ G' H' s (rs.step s)
abbrev dBreak : DS := fun A ρ O => A.bk ρ O
theorem d_break : DPS X L (.Break pos) dBreak := ⟨fun A A' ρ O l z => l.bk _ _ z, ps_imp ps_break fun Dn σ H ⟨G, O, ρ, g, rs, q⟩ => q _ _ _ (Step.refl g) rs⟩
abbrev dIfS (t : DT) (u v : DS) : DS := fun A ρ O => t ρ O (fun c O1 => bc c (u A ρ O1) (v A ρ O1)) (fun x O1 => A.ex x ρ O1)
theorem d_ifS {s1 s2 : List Stmt} (hc : DPT X L c mt) (h1 : DPSs X L s1 ms) (h2 : DPSs X L s2 mv) : DPS X L (.If c s1 s2 pos) (dIfS mt ms mv) := by
  refine ⟨fun A A' ρ O l z => hc.mo _ _ _ _ _ _ (fun d _ y => by cases d <;> first | exact h1.mo _ _ _ _ l y | exact h2.mo _ _ _ _ l y) (fun x _ y => l.ex _ _ _ y) z, ps_imp (ps_if hc.run h1.run h2.run) fun Dn σ H ⟨G, O, ρ, g, rs, q⟩ => ?_⟩
  refine upTE hc.mo g rs q fun d O' G' H' z s => ?_
  cases d with
  | true => exact iteT ⟨G', O', ρ, s.good, rs.step s, h1.mo _ _ _ _ (dn_step s) z⟩
  | false => exact iteF ⟨G', O', ρ, s.good, rs.step s, h2.mo _ _ _ _ (dn_step s) z⟩
abbrev dAsg (m : DE) (g : DG) : DS := fun A ρ O => m ρ O (fun d O1 => g d ρ fun ρ' => A.nx ρ' O1) (fun x O1 => A.ex x ρ O1)
theorem run_asg {g : DG} {is : List Nat} {Dn : Ends} (hm : Mo m) (hg : MoG g) (h : upS K L (dAsg m g) Dn σ H) : tAsg (up K L.B L.W m) (upG K L.B is g) Dn σ H := by
  obtain ⟨G, O, ρ, gd, rs, q⟩ := h
  refine upE hm gd rs q fun d v O' G' H' z s r => ?_
  exact ⟨G', O', ρ, d, s.good, rs.step s, r, hg _ _ _ _ (fun ρ' y σ' rs' _ => y σ' G' H' s rs') z⟩
theorem mo_asg {g : DG} (hm : Mo m) (hg : MoG g) : MoS (dAsg m g) := fun A A' ρ O l z => hm _ _ _ _ _ _ (fun d _ y => hg _ _ _ _ (fun _ => l.nx _ _) y) (fun x _ y => l.ex _ _ _ y) z
theorem d_asg {g : DG} {is : List Nat} (he : DPE X L e m) (hg : DPG X L tg is g) (hs : swapsWithSole [tg] e pos.line X.env = pure false) (hw : swappedStores [tg] e X.env = pure none) (h1 : (assignEach [tg] X.env).map (·.2) = [assign tg X.env]) :
    DPS X L (.Assign [tg] e pos) (dAsg m g) := ⟨mo_asg he.mo hg.mo, ps_imp (ps_asg he.run hg.run hs hw h1) fun Dn σ H q => run_asg he.mo hg.mo q⟩
theorem mog_name {i : Nat} : MoG (dgName i) := fun _ _ _ _ h z => h _ z
theorem d_set {i : Nat} {x : Str} {pos' : Pos} (hN : X.N.Nodup) (hi : X.N[i]? = some x) (hx : Loc X.env.scope x) (he : DPE X L e m) (hs : swapsWith e (some (.Name x pos')) pos.line X.env = pure false) (hf : X.fn x = true ∨ X.env.scope.names.lookup x = some .local) :
    DPS X L (.Assign [.Name x pos'] e pos) (dAsg m (dgName i)) := by
  refine ⟨mo_asg he.mo mog_name, ps_imp (ps_set hN hi hx he.run hs hf) fun Dn σ H ⟨G, O, ρ, g, rs, q⟩ => ?_⟩
  exact upE he.mo g rs q fun d v O' G' H' z s r => z _ G' H' s ((rs.step s).set r)
/-- y = [..] on one row -/
theorem d_setLc {i : Nat} {y : Str} {py spos : Pos} {elt tg iter : Expr} {ifs : List Expr} {scope : Scope} {own : List (Str × Nat)} {is : List Nat} {mi : DI} {g : DG} {tt : DT} {te : DE} (hc : X.calm = true) (hN : X.N.Nodup) (hy : X.N[i]? = some y) (hyl : X.env.scope.names.lookup y = some .local)
    (hsw : swapsWith (.ListComp elt [⟨tg, iter, ifs, 0⟩] scope pos) (some (.Name y py)) spos.line X.env = pure true) (hi : DPI X L tg iter mi) (ok : BlkOk X.N X.env.scope scope own)
    (hg : ∀ (s : Shared) (H : Hp) (C : Addr) (cl : List (Str × Addr)) (fp : List Addr), DPG (X.blk s H scope (compEnvC scope cl C X.env) fp) L.blk tg is g)
    (ht : ∀ (s : Shared) (H : Hp) (C : Addr) (cl : List (Str × Addr)) (fp : List Addr), DPTs (X.blk s H scope (compEnvC scope cl C X.env) fp) L.blk ifs tt)
    (he : ∀ (s : Shared) (H : Hp) (C : Addr) (cl : List (Str × Addr)) (fp : List Addr), DPE (X.blk s H scope (compEnvC scope cl C X.env) fp) L.blk elt te)
    (hv : is.all (fun i => (own.map (·.2)).contains i) = true) (hs : ∀ x, foldedSetIterable iter X.env x = pure x) :
    DPS X L (.Assign [.Name y py] (.ListComp elt [⟨tg, iter, ifs, 0⟩] scope pos) spos) (dAsg (dLc mi g tt te (own.map (·.2))) (dgName i)) := by
  have mg := (hg X.s_0 X.H_0 0 [] []).mo
  have mt := (ht X.s_0 X.H_0 0 [] []).mo
  have me := (he X.s_0 X.H_0 0 [] []).mo
  have ml : Mo (dLc mi g tt te (own.map (·.2))) := mo_lc hi.mo mg mt me
  refine ⟨mo_asg ml mog_name, ps_imp (ps_setLc (g := upG X.K L.B is g) (tt := upT X.K L.B (fun _ _ _ _ => False) tt) (te := up X.K L.B (fun _ _ _ _ => False) te) hc hN hy hyl hsw hi.run ok (fun s H C cl fp => (hg s H C cl fp).run) (fun s H C cl fp => (ht s H C cl fp).run) (fun s H C cl fp => (he s H C cl fp).run) hs) fun Dn σ H ⟨G, O, ρ, gd, rs, q⟩ => ?_⟩
  have q2 : up X.K L.B L.W (dLc mi g tt te (own.map (·.2))) σ H (fun x H1 => gName i x σ H1 Dn.nx) := upE ml gd rs q fun d v O' G' H' z s r => z _ G' H' s ((rs.step s).set r)
  obtain ⟨G2, O2, ρ2, gd2, rs2, q2⟩ := q2
  refine ⟨G2, O2, ρ2, gd2, rs2, hi.mo ρ2 _ _ _ _ _ (fun x O1 z J G1 H1 s1 it Dd nD => ?_) (fun _ _ x => x) q2⟩
  exact lc_run mg mt me s1 rs2 it z nD (in_of hv) fun acc vacc O1 G1 H1 p st a b c d e f => lc_show acc vacc O1 G1 H1 p st a b c d e f
def forW (I : Ow → Prop) (g : DG) (b : DS) (A : DEnds) : List D → Slots → Ow → Prop
  | [], ρ, O => I O ∧ A.nx ρ O
  | d :: ds, ρ, O => I O ∧ g d ρ fun ρ' => b { A with nx := forW I g b A ds, ct := forW I g b A ds, bk := A.nx } ρ' O
theorem forW_mo {I : Ow → Prop} {g : DG} {b : DS} (hg : MoG g) (hb : MoS b) {A A' : DEnds} (l : DEnds.Le A A') : ∀ {ds : List D} {ρ : Slots} {O : Ow}, forW I g b A ds ρ O → forW I g b A' ds ρ O
  | [], _, _, z => ⟨z.1, l.nx _ _ z.2⟩
  | d :: ds, _, _, z => ⟨z.1, hg _ _ _ _ (fun ρ' y => hb { A with nx := forW I g b A ds, ct := forW I g b A ds, bk := A.nx } { A' with nx := forW I g b A' ds, ct := forW I g b A' ds, bk := A'.nx } _ _ ⟨fun r _ w => forW_mo hg hb l w, l.rt, l.nx, fun r _ w => forW_mo hg hb l w, l.ex⟩ y) z.2⟩
abbrev dFor (mi : DI) (g : DG) (b : DS) : DS := fun A ρ O => mi ρ O (fun x O1 => forW x.1 g b A x.2 ρ O1) (fun x O1 => A.ex x ρ O1)
theorem d_for {iter : Expr} {body : List Stmt} {mi : DI} {g : DG} {is : List Nat} (hp : PassesOwn (model X.prog X.w) X.A X.env X.xe) (hc : X.calm = true) (hi : DPI X L tg iter mi) (hg : DPG X L tg is g) (hb : DPSs X L body ms)
    (hs : ∀ x, foldedSetIterable iter X.env x = pure x) : DPS X L (.For tg iter body [] pos) (dFor mi g ms) := by
  refine ⟨fun A A' ρ O l z => hi.mo _ _ _ _ _ _ (fun d _ y => forW_mo hg.mo hb.mo l y) (fun x _ y => l.ex _ _ _ y) z, ps_imp (ps_for hp hc hi.run hg.run hb.run hs) fun Dn σ H ⟨G, O, ρ, gd, rs, q⟩ => ?_⟩
  refine ⟨G, O, ρ, gd, rs, hi.mo ρ _ _ _ _ _ (fun x O1 z J G1 H1 s1 it => ?_) (fun x _ z => kx_of rs z) q⟩
  obtain ⟨I, ds⟩ := x
  refine ⟨fun i m σ2 H2 => ∃ G2 O2 ρ2, m = ds.length - i ∧ i ≤ ds.length ∧ Step X.K L.B O1 G1 H1 O2 G2 H2 ∧ RpS X.K G2 σ2 ρ2 ∧ forW I g ms (dn X.K L O2 G2 H2 Dn) (ds.drop i) ρ2 O2,
    ⟨ds.length, G1, O1, ρ, by simp, Nat.zero_le _, Step.refl s1.good, rs.step s1, ?_⟩, ?_⟩
  · rw [List.drop_zero]
    exact forW_mo hg.mo hb.mo (dn_step s1) z
  · rintro i m σ2 H2 ⟨G2, O2, ρ2, rfl, hi2, st, rs2, hf⟩
    rcases Nat.lt_or_ge i ds.length with hlt | hge
    · have ei : ds[i]? = some ds[i] := List.getElem?_eq_getElem hlt
      have ed : ds.drop i = ds[i] :: ds.drop (i + 1) := List.drop_eq_getElem_cons hlt
      rw [ed] at hf
      obtain ⟨hI, hf⟩ := hf
      obtain ⟨go, yl⟩ := (it i O2 G2 H2 st.good st.grow hI).1 _ ei
      refine .inr ⟨go, fun σ3 H3 => ∃ G3 O3 ρ3, Step X.K L.B O1 G1 H1 O3 G3 H3 ∧ RpS X.K G3 σ3 ρ3 ∧ forW I g ms (dn X.K L O3 G3 H3 Dn) (ds.drop (i + 1)) ρ3 O3, fun σ3 H3 ⟨G3, O3, ρ3, a, b, c⟩ => ⟨ds.length - (i + 1), by omega, G3, O3, ρ3, rfl, by omega, a, b, c⟩, fun x H3 y => ?_⟩
      obtain ⟨G3, s3, rx⟩ := yl x H3 y
      refine ⟨G3, O2, ρ2, ds[i], s3.good, rs2.step s3, rx, hg.mo _ _ _ _ (fun ρ' z2 σ' rs' _ => ?_) hf⟩
      refine ⟨G3, O2, ρ', s3.good, rs', hb.mo { dn X.K L O2 G2 H2 Dn with nx := forW I g ms (dn X.K L O2 G2 H2 Dn) (ds.drop (i + 1)), ct := forW I g ms (dn X.K L O2 G2 H2 Dn) (ds.drop (i + 1)), bk := (dn X.K L O2 G2 H2 Dn).nx } _ _ _ ⟨fun r O4 w σ4 G4 H4 s4 rs4 => ?_, fun r O4 w v G4 H4 s4 r4 => ?_, fun r O4 w σ4 G4 H4 s4 rs4 => ?_, fun r O4 w σ4 G4 H4 s4 rs4 => ?_, fun x r O4 w σ4 d fs G4 H4 s4 rs4 a b => ?_⟩ z2⟩
      · exact ⟨G4, O4, r, st.trans (s3.trans s4), rs4, forW_mo hg.mo hb.mo (dn_step (s3.trans s4)) w⟩
      · exact w v G4 H4 (s3.trans s4) r4
      · exact w σ4 G4 H4 (s3.trans s4) rs4
      · exact ⟨G4, O4, r, st.trans (s3.trans s4), rs4, forW_mo hg.mo hb.mo (dn_step (s3.trans s4)) w⟩
      · exact w σ4 d fs G4 H4 (s3.trans s4) rs4 a b
    · rw [List.drop_eq_nil_of_le hge] at hf
      obtain ⟨hI, hf⟩ := hf
      refine .inl ⟨(it i O2 G2 H2 st.good st.grow hI).2 (show i = ds.length by omega), ?_⟩
      exact hf _ _ _ (Step.refl st.good) rs2
end
def startD (N : List Str) (ds : List D) : Slots := ds.map .sh ++ List.replicate (N.length - ds.length) .un
theorem start_rp {K : PySem.W.Frag} {G : Hp} {N : List Str} {vs : List V} {ds : List D} (r : RpL K G vs ds) : RpS K G (L2.start N vs) (startD N ds) := by
  have hl := r.length
  unfold L2.start startD
  refine ⟨by simp [hl], fun i d e => ?_⟩
  by_cases hi : i < ds.length
  · rw [List.getElem?_append_left (by simpa using hi), List.getElem?_map] at e
    cases q : ds[i]? with
    | none => rw [q] at e; cases e
    | some x =>
      rw [q] at e
      cases e
      obtain ⟨v, ev, rv⟩ := r.get q
      exact ⟨v, by rw [List.getElem?_append_left (by simpa [hl] using hi), List.getElem?_map, ev]; rfl, rv⟩
  · rw [List.getElem?_append_right (by simpa using hi)] at e
    rw [List.getElem?_replicate] at e
    split at e <;> cases e
/-- the ends of a def's body -/
abbrev endsD (Q : QD) (E : QX) : DEnds := { nx := fun _ O => Q .non O, rt := Q, ex := fun x _ O => E x O }
section
variable {P : Program} {w : World} {K : PySem.W.Frag} {mg : Str → Option Value} {base : Heap}
/-- a def that raises nothing -/
theorem fn_pure {x qual : Str} {st : Stmt} {f : Addr} {fd : FuncData} {N ps : List Str} {k : Nat} {sp : DSp} {ms : DS} (Fn : Fun K x qual st f fd) (S : FnScope N ps (defScope st)) (len : ∀ ds O Q E, sp ds O Q E → ds.length = ps.length)
    (hb : ∀ (cdv : Value) (A : Around) (outer : List Env) (s : Shared) (H : Hp) (E : XK), Room k (A.deeper (envOfC qual (defScope st) s.heap.objs.size f cdv)) →
      DPSs (cxOf CX0 P w K mg base N qual (defScope st) f cdv A outer s H E).nox ⟨bo0, fun _ _ _ _ => False⟩ (defBody st) ms)
    (h : ∀ ds O Q E, sp ds O Q E → ms (endsD Q E) (startD N ds) O) (noex : ∀ ds O Q E, sp ds O Q E → sp ds O Q fun _ _ => False) : FnOk P w K mg base CX0 (k + 1) f fd ps (spD K sp) := by
  refine Fn.ok S (fun vs H Q E ⟨G, O, ds, g, r, Q0, E0, h0, _⟩ => ?_) (fun cdv A outer s H vs Q E hr ⟨G, O, ds, g, r, Q0, E0, h0, hq, hx⟩ => ?_)
  · rw [r.length]; exact len _ _ _ _ h0
  · have b := hb cdv A outer s H E hr
    refine ⟨_, b.run, G, O, startD N ds, g, start_rp r, b.mo (endsD Q0 fun _ _ => False) _ _ _ ⟨fun ρ O1 z σ' G' H' s _ => hq _ _ z _ G' H' s .non, fun d O1 z v G' H' s rv => hq _ _ z v G' H' s rv, fun _ _ z => z.elim, fun _ _ z => z.elim, fun x ρ _ z => z.elim⟩ (h ds O Q0 (fun _ _ => False) (noex _ _ _ _ h0))⟩
/-- a def that takes the box first and raises nothing -/
theorem fn_box {x qual : Str} {st : Stmt} {f : Addr} {fd : FuncData} {N ps : List Str} {k : Nat} {sp : DSp} {ms : Addr → DS} (Fn : Fun K x qual st f fd) (S : FnScope N ps (defScope st)) (len : ∀ ds O Q E, sp ds O Q E → ds.length + 1 = ps.length)
    (hb : ∀ (cdv : Value) (A : Around) (outer : List Env) (s : Shared) (H : Hp) (E : XK) (b l : Addr) (T : List (Addr × Str)), Room k (A.deeper (envOfC qual (defScope st) s.heap.objs.size f cdv)) →
      DPSs (cxOf CX0 P w K mg base N qual (defScope st) f cdv A outer s H E).nox ⟨boB b l T, fun _ _ _ _ => False⟩ (defBody st) (ms b))
    (h : ∀ b ds O Q E, sp ds O Q E → ms b (endsD Q E) (startD N (.opq (.ref b) :: ds)) O) (noex : ∀ ds O Q E, sp ds O Q E → sp ds O Q fun _ _ => False) : FnOk P w K mg base CX0 (k + 1) f fd ps (spB K sp) := by
  refine Fn.ok S (fun vs H Q E ⟨b, l, T, ws, G, O, ds, ev, g, r, Q0, E0, h0, _⟩ => ?_) (fun cdv A outer s H vs Q E hr ⟨b, l, T, ws, G, O, ds, ev, g, r, Q0, E0, h0, hq, hx⟩ => ?_)
  · rw [ev, List.length_cons, r.length]; exact len _ _ _ _ h0
  · subst ev
    have bb := hb cdv A outer s H E b l T hr
    refine ⟨_, bb.run, G, O, startD N (.opq (.ref b) :: ds), g, start_rp (.cons (.opq _) r), bb.mo (endsD Q0 fun _ _ => False) _ _ _ ⟨fun ρ O1 z σ' G' H' s _ => hq _ _ z _ G' H' s .non, fun d O1 z v G' H' s rv => hq _ _ z v G' H' s rv, fun _ _ z => z.elim, fun _ _ z => z.elim, fun x ρ _ z => z.elim⟩ (h b ds O Q0 (fun _ _ => False) (noex _ _ _ _ h0))⟩
end
end EV
set_option Elab.async false
set_option linter.all false
set_option maxRecDepth 100000
set_option maxHeartbeats 4000000
namespace EV
open PySem PySem.Spec PyProof.Rows L2
abbrev P2 := D → D → (D → Prop) → Prop
mutual
def toP : D → Option PyData
  | .non => some .none
  | .bl b => some (.bool b)
  | .int i => some (.int i)
  | .str x => some (.str x)
  | .lst xs => (toPs xs).map .list
  | .tup xs => (toPs xs).map .tuple
  | _ => none
def toPs : List D → Option (List PyData)
  | [] => some []
  | x :: xs => match toP x, toPs xs with
    | some y, some ys => some (y :: ys)
    | _, _ => none
end
section
variable {K : PySem.W.Frag} {G H : Hp}
mutual
theorem Rp.dp (s : Sub G H) : ∀ {d : D} {v : V} {q : PyData}, Rp K G v d → toP d = some q → Dp K H v q
  | .non, _, _, .non, e => by cases e; exact .non
  | .bl _, _, _, .bl b, e => by cases e; exact .bl b
  | .int _, _, _, .int i, e => by cases e; exact .int i
  | .str _, _, _, .str x, e => by cases e; exact .str x
  | .opq _, _, _, .opq v, e => by simp [toP] at e
  | .lst ds, _, _, .lst h r, e => by
    simp only [toP, Option.map_eq_some_iff] at e
    obtain ⟨qs, e1, rfl⟩ := e
    exact .lst (s.lstL h) (RpL.dp s r e1)
  | .tup ds, _, _, .tup h r, e => by
    simp only [toP, Option.map_eq_some_iff] at e
    obtain ⟨qs, e1, rfl⟩ := e
    exact .tup (s.sqT h) (RpL.dp s r e1)
  | .dic _, _, _, .dic h r, e => by simp [toP] at e
  | .ins _ _, _, _, .ins h r, e => by simp [toP] at e
  | .exc _ _, _, _, .exc h _ _ r, e => by simp [toP] at e
theorem RpL.dp (s : Sub G H) : ∀ {ds : List D} {vs : List V} {qs : List PyData}, RpL K G vs ds → toPs ds = some qs → DpAll K H vs qs
  | [], _, _, .nil, e => by cases e; exact .nil
  | d :: ds, _, _, .cons h r, e => by
    simp only [toPs] at e
    split at e
    · rename_i y ys e1 e2
      cases e
      exact .cons (Rp.dp s h e1) (RpL.dp s r e2)
    · cases e
end
end
abbrev addD : P2
  | .int i, .int j, Q => Q (.int (i + j))
  | .str x, .str y, Q => x.length + y.length ≤ sizeLine ∧ Q (.str (x ++ y))
  | .lst xs, .lst ys, Q => xs.length + ys.length ≤ sizeLine ∧ Q (.lst (xs ++ ys))
  | .tup xs, .tup ys, Q => xs ≠ [] ∧ xs.length + ys.length ≤ sizeLine ∧ Q (.tup (xs ++ ys))
  | _, _, _ => False
abbrev iI (C : Int → Int → Prop) (g : Int → Int → D) : P2
  | .int i, .int j, Q => C i j ∧ Q (g i j)
  | _, _, _ => False
abbrev subD : P2 := iI (fun _ _ => True) fun i j => .int (i - j)
abbrev modD : P2 := iI (fun _ j => 0 < j) fun i j => .int (i % j)
abbrev mulD : P2
  | .int i, .int j, Q => CMul i j ∧ Q (.int (i * j))
  | .str x, .int n, Q => MulOk x n ∧ Q (.str (Txt.mul x n))
  | .lst xs, .int k, Q => -(2 ^ 63) ≤ k ∧ k < 2 ^ 63 ∧ xs.length * k.toNat ≤ sizeLine ∧ Q (.lst (List.replicate k.toNat xs).flatten)
  | _, _, _ => False
abbrev ordD (gi : Int → Int → Bool) (gs : Str → Str → Bool) : P2
  | .int i, .int j, Q => Q (.bl (gi i j))
  | .str x, .str y, Q => Q (.bl (gs x y))
  | _, _, _ => False
abbrev ltD : P2 := ordD (fun i j => decide (i < j)) fun x y => decide (x.cps.toList < y.cps.toList)
abbrev leD : P2 := ordD (fun i j => decide (i ≤ j)) fun x y => !decide (y.cps.toList < x.cps.toList)
abbrev gtD : P2 := ordD (fun i j => decide (j < i)) fun x y => decide (y.cps.toList < x.cps.toList)
/-- ==, told through f -/
def eqD (f : Bool → Bool) : P2
  | .int i, .int j, Q => Q (.bl (f (decide (i = j))))
  | .str x, .str y, Q => Q (.bl (f (decide (x = y))))
  | .bl x, .bl y, Q => Q (.bl (f (decide (x = y))))
  | a, b, Q => match toP a, toP b with
    | some x, some y => SeqAt.shaped x = true ∧ SeqAt.shaped y = true ∧ Q (.bl (f (PyData.eqv x y)))
    | _, _ => False
abbrev isNonD : D → Bool
  | .non => true
  | _ => false
/-- is None, is not None -/
abbrev isD (f : Bool → Bool) : P2
  | .opq _, _, _ => False
  | a, .non, Q => Q (.bl (f (isNonD a)))
  | _, _, _ => False
/-- in, not in -/
abbrev inD (f : Bool → Bool) : P2
  | .str ⟨⟨[c]⟩⟩, .str z, Q => Q (.bl (f (decide (c ∈ z.cps.toList))))
  | a, .lst xs, Q => match toP a, toPs xs with
    | some x, some ys => SeqAt.shaped x = true ∧ SeqAt.shaped (.list ys) = true ∧ Q (.bl (f (ys.any fun z => PyData.eqv z x)))
    | _, _ => False
  | _, _, _ => False
theorem sub_i {X : Cx} {B : Bo} {f : Value → Value → Sem Value} {C : Int → Int → Prop} {g : Int → Int → D} {gv : Int → Int → V} (h : OpR X f (rI C gv)) (hg : ∀ i j K G, Rp K G (gv i j) (g i j)) : OpD X B f (pu (iI C g)) := by
  refine ⟨fun O x y Q Q' q z => ?_, _, h, fun O G H x y a b Q gd r1 r2 q => ?_⟩
  · dsimp only [pu] at z ⊢; unfold iI at z ⊢
    split at z
    · exact ⟨z.1, q _ z.2⟩
    · exact z
  · dsimp only [pu] at q; unfold iI at q
    split at q
    · cases r1
      cases r2
      exact ⟨_, _, rfl, rfl, q.1, q.2 _ _ _ (Step.refl gd) (hg _ _ _ _)⟩
    · exact q.elim
section
variable {X : Cx} {B : Bo}
theorem od_sub : OpD X B (binaryOp .Sub) (pu subD) := by
  have h : OpR X (binaryOp .Sub) (rI (fun _ _ => True) fun i j => .int (i - j)) := fun pins s σ H x y v u Q I r1 r2 ⟨i, j, e1, e2, _, q⟩ => op_sub pins s σ H x y v u Q I r1 r2 ⟨i, j, e1, e2, q⟩
  exact sub_i h fun i j K G => .int _
theorem od_mod : OpD X B (binaryOp .Mod) (pu modD) := sub_i op_mod fun i j K G => .int _
theorem od_add : OpD X B (binaryOp .Add) (pu addD) := by
  refine ⟨fun O x y Q Q' q z => ?_, _, op_add.or (op_add_str.or (op_cat.or op_catT)), fun O G H x y a b Q gd r1 r2 q => ?_⟩
  · dsimp only [pu] at z ⊢; unfold addD at z ⊢
    split at z
    · exact q _ z
    · exact ⟨z.1, q _ z.2⟩
    · exact ⟨z.1, q _ z.2⟩
    · exact ⟨z.1, z.2.1, q _ z.2.2⟩
    · exact z
  · dsimp only [pu] at q; unfold addD at q
    split at q
    · cases r1
      cases r2
      exact .inl ⟨_, _, rfl, rfl, q _ _ _ (Step.refl gd) (.int _)⟩
    · cases r1
      cases r2
      exact .inr (.inl ⟨_, _, rfl, rfl, q.1, q.2 _ _ _ (Step.refl gd) (.str _)⟩)
    · cases r1 with
      | lst s1 l1 =>
        cases r2 with
        | lst s2 l2 => exact .inr (.inr (.inl ⟨_, _, _, _, rfl, rfl, gd.sub _ _ s1, gd.sub _ _ s2, by rw [l1.length, l2.length]; exact q.1, fun p np => q.2 _ _ _ (Step.new gd np) (new_lst gd np (l1.append l2))⟩))
    · rename_i xs ys
      cases r1 with
      | tup s1 l1 =>
        cases r2 with
        | tup s2 l2 =>
          refine .inr (.inr (.inr ⟨_, _, _, _, rfl, rfl, gd.sub.sqT s1, gd.sub.sqT s2, fun z => ?_, by rw [l1.length, l2.length]; exact q.2.1, fun z => ?_, fun z p np => q.2.2 _ _ _ (Step.new gd np) (new_tup gd np (l1.append l2))⟩))
          · subst z
            cases l1
            exact q.1 rfl
          · subst z
            cases l2
            rw [List.append_nil] at q
            exact q.2.2 _ _ _ (Step.refl gd) (.tup s1 l1)
    · exact q.elim
theorem RpL.rep {K : PySem.W.Frag} {G : Hp} {vs : List V} {ds : List D} (r : RpL K G vs ds) : ∀ n : Nat, RpL K G (List.replicate n vs).flatten (List.replicate n ds).flatten
  | 0 => .nil
  | n + 1 => by
    rw [List.replicate_succ, List.replicate_succ, List.flatten_cons, List.flatten_cons]
    exact r.append (RpL.rep r n)
theorem op_mulS : OpR X (binaryOp .Mult) (fun x y H Q => ∃ z n, x = .str z ∧ y = .int n ∧ MulOk z n ∧ Q (.str (Txt.mul z n)) H) := by
  intro pins s σ H x y v u Q I rx ry h
  obtain ⟨z, n, rfl, rfl, hk, q⟩ := h
  obtain ⟨t, rfl⟩ := rx
  obtain ⟨t', rfl⟩ := ry
  exact SB.mul hk fun t2 k => ⟨.str _, H, I.tok _, ⟨_, rfl⟩, q⟩
theorem od_mul : OpD X B (binaryOp .Mult) (pu mulD) := by
  refine ⟨fun O x y Q Q' q z => ?_, _, op_mul.or (op_mulS.or op_rep), fun O G H x y a b Q gd r1 r2 q => ?_⟩
  · dsimp only [pu] at z ⊢; unfold mulD at z ⊢
    split at z
    · exact ⟨z.1, q _ z.2⟩
    · exact ⟨z.1, q _ z.2⟩
    · exact ⟨z.1, z.2.1, z.2.2.1, q _ z.2.2.2⟩
    · exact z
  · dsimp only [pu] at q; unfold mulD at q
    split at q
    · cases r1
      cases r2
      exact .inl ⟨_, _, rfl, rfl, q.1, q.2 _ _ _ (Step.refl gd) (.int _)⟩
    · cases r1
      cases r2
      exact .inr (.inl ⟨_, _, rfl, rfl, q.1, q.2 _ _ _ (Step.refl gd) (.str _)⟩)
    · cases r1 with
      | lst s1 l1 =>
        cases r2
        exact .inr (.inr ⟨_, _, _, rfl, rfl, gd.sub _ _ s1, q.1, q.2.1, by rw [l1.length]; exact q.2.2.1, fun p np => q.2.2.2 _ _ _ (Step.new gd np) (new_lst gd np (l1.rep _))⟩)
    · exact q.elim
theorem od_ord {op : CmpOp} {gi : Int → Int → Bool} {gs : Str → Str → Bool} (h1 : OpR X (compareOp op) (rI0 fun i j => .bl (gi i j))) (h2 : OpR X (compareOp op) (fun x y H Q => ∃ i j, x = .str i ∧ y = .str j ∧ Q (.bl (gs i j)) H)) : OpD X B (compareOp op) (pu (ordD gi gs)) := by
  refine ⟨fun O x y Q Q' q z => ?_, _, h1.or h2, fun O G H x y a b Q gd r1 r2 q => ?_⟩
  · dsimp only [pu] at z ⊢; unfold ordD at z ⊢
    split at z
    · exact q _ z
    · exact q _ z
    · exact z
  · dsimp only [pu] at q; unfold ordD at q
    split at q
    · cases r1
      cases r2
      exact .inl ⟨_, _, rfl, rfl, q _ _ _ (Step.refl gd) (.bl _)⟩
    · cases r1
      cases r2
      exact .inr ⟨_, _, rfl, rfl, q _ _ _ (Step.refl gd) (.bl _)⟩
    · exact q.elim
theorem od_lt : OpD X B (compareOp .Lt) (pu ltD) := od_ord op_lt op_lt_str
theorem od_le : OpD X B (compareOp .LtE) (pu leD) := od_ord op_le op_le_str
theorem od_gt : OpD X B (compareOp .Gt) (pu gtD) := od_ord op_gt op_gt_str
theorem od_eqf {op : CmpOp} {f : Bool → Bool} (h1 : OpR X (compareOp op) (fun x y H Q => scal x y = true ∧ Q (.bl (f (decide (x = y)))) H))
    (h2 : OpR X (compareOp op) (fun x y H Q => ∃ d e, Dp X.K H x d ∧ Dp X.K H y e ∧ SeqAt.shaped d = true ∧ SeqAt.shaped e = true ∧ Q (.bl (f (PyData.eqv d e))) H)) : OpD X B (compareOp op) (pu (eqD f)) := by
  refine ⟨fun O x y Q Q' q z => ?_, _, h1.or h2, fun O G H x y a b Q gd r1 r2 q => ?_⟩
  · dsimp only [pu] at z ⊢; unfold eqD at z ⊢
    split at z
    · exact q _ z
    · exact q _ z
    · exact q _ z
    · split at z
      · exact ⟨z.1, z.2.1, q _ z.2.2⟩
      · exact z
  · dsimp only [pu] at q; unfold eqD at q
    split at q
    · cases r1
      cases r2
      rename_i i j
      have : decide (V.int i = V.int j) = decide (i = j) := by simp
      exact .inl ⟨rfl, by rw [this]; exact q _ _ _ (Step.refl gd) (.bl _)⟩
    · cases r1
      cases r2
      rename_i i j
      have : decide (V.str i = V.str j) = decide (i = j) := by simp
      exact .inl ⟨rfl, by rw [this]; exact q _ _ _ (Step.refl gd) (.bl _)⟩
    · cases r1
      cases r2
      rename_i i j
      have : decide (V.bl i = V.bl j) = decide (i = j) := by simp
      exact .inl ⟨rfl, by rw [this]; exact q _ _ _ (Step.refl gd) (.bl _)⟩
    · split at q
      · rename_i p1 p2 e1 e2
        exact .inr ⟨p1, p2, r1.dp gd.sub e1, r2.dp gd.sub e2, q.1, q.2.1, q.2.2 _ _ _ (Step.refl gd) (.bl _)⟩
      · exact q.elim
theorem od_eq (hu : X.A.units + 64 < cLine) : OpD X B (compareOp .Eq) (pu (eqD id)) := od_eqf op_eq (op_eqD hu)
theorem od_ne (hu : X.A.units + 64 < cLine) : OpD X B (compareOp .NotEq) (pu (eqD not)) := od_eqf op_ne (op_neD hu)
theorem od_isf {op : CmpOp} {f : Bool → Bool} (h : OpR X (compareOp op) (fun x y H Q => y = .non ∧ Q (.bl (f (decide (x = .non)))) H)) : OpD X B (compareOp op) (pu (isD f)) := by
  refine ⟨fun O x y Q Q' q z => ?_, _, h, fun O G H x y a b Q gd r1 r2 q => ?_⟩
  · dsimp only [pu] at z ⊢; unfold isD at z ⊢
    split at z
    · exact z
    · exact q _ z
    · exact z
  · dsimp only [pu] at q; unfold isD at q
    split at q
    · exact q.elim
    · cases r2
      refine ⟨rfl, ?_⟩
      cases r1 <;> first
        | exact q _ _ _ (Step.refl gd) (.bl _)
        | (rename_i nn _ _; exact (nn _ rfl).elim)
        | (rename_i nn; exact (nn _ rfl).elim)
    · exact q.elim
theorem od_is : OpD X B (compareOp .Is) (pu (isD id)) := od_isf op_isN
theorem toPs_list {K : PySem.W.Frag} {G H : Hp} {a : Addr} {ds : List D} {qs : List PyData} (s : Sub G H) (r : Rp K G (.ref a) (.lst ds)) (e : toPs ds = some qs) : Dp K H (.ref a) (.list qs) := r.dp s (by simp [toP, e])
theorem od_inf {op : CmpOp} {f : Bool → Bool} (h1 : OpR X (compareOp op) (fun x y H Q => ∃ (c : Nat) (z : Str), x = .str ⟨#[c]⟩ ∧ y = .str z ∧ Q (.bl (f (decide (c ∈ z.cps.toList)))) H))
    (h2 : OpR X (compareOp op) (fun x y H Q => ∃ d ds, Dp X.K H x d ∧ Dp X.K H y (.list ds) ∧ SeqAt.shaped d = true ∧ SeqAt.shaped (.list ds) = true ∧ Q (.bl (f (ds.any fun z => PyData.eqv z d))) H)) : OpD X B (compareOp op) (pu (inD f)) := by
  refine ⟨fun O x y Q Q' q z => ?_, _, h1.or h2, fun O G H x y a b Q gd r1 r2 q => ?_⟩
  · dsimp only [pu] at z ⊢; unfold inD at z ⊢
    split at z
    · exact q _ z
    · split at z
      · exact ⟨z.1, z.2.1, q _ z.2.2⟩
      · exact z
    · exact z
  · dsimp only [pu] at q; unfold inD at q
    split at q
    · cases r1
      cases r2
      exact .inl ⟨_, _, rfl, rfl, q _ _ _ (Step.refl gd) (.bl _)⟩
    · split at q
      · rename_i p1 p2 e1 e2
        cases r2 with
        | lst s2 l2 => exact .inr ⟨p1, p2, r1.dp gd.sub e1, toPs_list gd.sub (.lst s2 l2) e2, q.1, q.2.1, q.2.2 _ _ _ (Step.refl gd) (.bl _)⟩
      · exact q.elim
    · exact q.elim
theorem od_in (hu : X.A.units + 65 < cLine) : OpD X B (compareOp .In) (pu (inD id)) := od_inf op_in_sign (op_inD hu)
end
end EV
set_option Elab.async false
set_option linter.all false
set_option maxRecDepth 100000
set_option maxHeartbeats 4000000
namespace EV
open PySem PySem.Spec PyProof.Rows L2
abbrev PC := List D → (D → Prop) → Prop
abbrev lenD : PC
  | [.str y], Q => y.length ≤ sizeLine ∧ Q (.int y.length)
  | [.lst xs], Q => Q (.int xs.length)
  | [.tup xs], Q => Q (.int xs.length)
  | _, _ => False
abbrev toIntD : PC
  | [.int i], Q => Q (.int i)
  | [.bl k], Q => Q (.int (if k then 1 else 0))
  | _, _ => False
def toBs : List D → Option (List Bool)
  | [] => some []
  | .bl b :: r => (toBs r).map (b :: ·)
  | _ => none
def allD : PC
  | [.lst xs], Q => match toBs xs with
    | some bs => Q (.bl (bs.all id))
    | none => False
  | _, _ => False
def anyD : PC
  | [.lst xs], Q => match toBs xs with
    | some bs => Q (.bl (bs.any id))
    | none => False
  | _, _ => False
/-- the type's name of plain data -/
def tyD : D → Option String
  | .non => some "NoneType"
  | .bl _ => some "bool"
  | .int _ => some "int"
  | .str _ => some "str"
  | .lst _ => some "list"
  | .tup _ => some "tuple"
  | .dic _ => some "dict"
  | _ => none
def kn (n : String) : Bool := n == "str" || n == "int" || n == "bool" || n == "list" || n == "tuple" || n == "dict"
def isT (t n : String) : Bool := t == n || (t == "bool" && n == "int")
def isiB (d : D) (n : String) : Bool := match tyD d with
  | some t => isT t n
  | none => false
def isAny (d : D) : List D → Option Bool
  | [] => some false
  | .opq (.ty n) :: r => if kn n = true then (isAny d r).map (isiB d n || ·) else none
  | _ => none
def isiD : PC
  | [x, .opq (.ty n)], Q => kn n = true ∧ (tyD x).isSome = true ∧ Q (.bl (isiB x n))
  | _, _ => False
theorem toBs_vs {K : PySem.W.Frag} {G : Hp} : ∀ {ds : List D} {vs : List V} {bs : List Bool}, RpL K G vs ds → toBs ds = some bs → vs = bs.map V.bl
  | [], _, _, .nil, e => by cases e; rfl
  | .bl b :: r, _, _, .cons (.bl _) t, e => by
    simp only [toBs, Option.map_eq_some_iff] at e
    obtain ⟨bs, e1, rfl⟩ := e
    rw [toBs_vs t e1]; rfl
theorem kn_cases {n : String} (h : kn n = true) : n = "str" ∨ n = "int" ∨ n = "bool" ∨ n = "list" ∨ n = "tuple" ∨ n = "dict" := by
  unfold kn at h
  simp only [Bool.or_eq_true, beq_iff_eq] at h
  rcases h with ((((h | h) | h) | h) | h) | h <;> simp [h]
theorem kit_tab : ∀ t ∈ ["NoneType", "bool", "int", "str", "list", "tuple", "dict"], ∀ n ∈ ["str", "int", "bool", "list", "tuple", "dict"], kitB t n = some (isT t n) := by decide +kernel
theorem kit_isi {K : PySem.W.Frag} {d : D} {t n : String} (ht : tyD d = some t) (hn : kn n = true) : PySem.W.kitOne K (.type t) (.type n) = some (isiB d n) := by
  have e : isiB d n = isT t n := by unfold isiB; rw [ht]
  rw [e]
  refine kit_ty (kit_tab t ?_ n ?_)
  · cases d <;> simp [tyD] at ht <;> subst ht <;> simp
  · rcases kn_cases hn with q | q | q | q | q | q <;> subst q <;> simp
theorem Rp.ty {K : PySem.W.Frag} {G H : Hp} {d : D} {v : V} {t : String} (s : Sub G H) (r : Rp K G v d) (h : tyD d = some t) : TyX K H v (.type t) := by
  cases r with
  | non => cases h; exact .base .non
  | bl b => cases h; exact .base (.bl b)
  | int i => cases h; exact .base (.int i)
  | str x => cases h; exact .base (.str x)
  | opq => simp [tyD] at h
  | lst q _ => cases h; exact .base (.lst (s _ _ q))
  | tup q _ =>
    cases h
    rcases q with (q | ⟨o, q⟩) | ⟨o, its, n, q, c, _⟩
    · exact .base (.tup (s _ _ q))
    · exact .fTuple (s _ _ q)
    · exact .kTuple q c
  | dic q _ => cases h; exact .fDict (s _ _ q)
  | ins => simp [tyD] at h
  | exc => simp [tyD] at h
  | lam => simp [tyD] at h
  | nk => simp [tyD] at h
theorem isAny_run {K : PySem.W.Frag} {G : Hp} {d : D} {t : String} (ht : tyD d = some t) : ∀ {cs : List D} {vs : List V} {b : Bool}, RpL K G vs cs → isAny d cs = some b → ∃ us, Paired ClsV vs us ∧ PySem.W.kitAny K (.type t) us = some b
  | [], _, _, .nil, e => by cases e; exact ⟨[], .nil, rfl⟩
  | .opq (.ty n) :: r, _, _, .cons (.opq _) q, e => by
    unfold isAny at e
    split at e
    · rename_i hn
      simp only [Option.map_eq_some_iff] at e
      obtain ⟨b', e1, rfl⟩ := e
      obtain ⟨us, p, k⟩ := isAny_run ht q e1
      refine ⟨.type n :: us, .cons (.ty n) p, ?_⟩
      refine kitAny_cons (kit_isi ht hn) (fun z => ?_) (fun z => ?_)
      · rw [z, Bool.false_or]; exact k
      · rw [z, Bool.true_or]
    · cases e
section
variable {X : Cx} {L : Pl} {B : Bo} {e o : Expr} {m mo' : DE} {pos p : Pos}
/-- len, also of what a handle holds -/
def lenO : DC := fun O xs Q => lenD (xs.map (lk O)) Q
theorem cd_len : CallD X B (.builtin "len") lenO := by
  refine ⟨fun O x Q Q' q z => ?_, _, call_len, fun O G H vs ds Q g r h => ?_⟩
  · unfold lenO at z ⊢
    generalize x.map (lk O) = x at z ⊢
    unfold lenD at z ⊢
    split at z
    · exact ⟨z.1, q _ z.2⟩
    · exact q _ z
    · exact q _ z
    · exact z
  · unfold lenO at h
    cases r with
    | nil => exact h.elim
    | cons r1 r2 =>
      cases r2 with
      | cons _ _ =>
        simp only [List.map_cons] at h
        unfold lenD at h
        split at h <;> first | exact h.elim | (rename_i e; simp at e)
      | nil =>
        have rx := lk_rp g r1
        simp only [List.map_cons, List.map_nil] at h
        rename_i d0
        generalize lk O d0 = d at rx h
        cases d <;> first | exact h.elim | skip
        · cases rx.str; exact ⟨_, _, rfl, ⟨h.1, rfl⟩, h.2 _ _ _ (Step.refl g) (.int _)⟩
        · obtain ⟨a, vs, rfl, s, l⟩ := rx.lst g.sub
          exact ⟨_, _, rfl, .inl ⟨_, .inl (.inl s), rfl⟩, by rw [l.length]; exact h _ _ _ (Step.refl g) (.int _)⟩
        · obtain ⟨a, vs, rfl, s, l⟩ := rx.tup g.sub
          exact ⟨_, _, rfl, .inr ⟨_, s, rfl⟩, by rw [l.length]; exact h _ _ _ (Step.refl g) (.int _)⟩
theorem cd_int : CallD X B (.type "int") (pc toIntD) := by
  refine ⟨fun O x Q Q' q z => ?_, _, call_int1, fun O G H vs ds Q g r h => ?_⟩
  · dsimp only [pc] at z ⊢; unfold toIntD at z ⊢
    split at z
    · exact q _ z
    · exact q _ z
    · exact z
  · dsimp only [pc] at h; unfold toIntD at h
    split at h
    · cases r with | cons r1 r2 => cases r2; cases r1; exact .inl ⟨_, rfl, h _ _ _ (Step.refl g) (.int _)⟩
    · cases r with | cons r1 r2 => cases r2; cases r1; exact .inr ⟨_, rfl, h _ _ _ (Step.refl g) (.int _)⟩
    · exact h.elim
theorem cd_all (hc : X.calm = true) : CallD X B (.builtin "all") (pc allD) := by
  refine ⟨fun O x Q Q' q z => ?_, _, cr_all hc, fun O G H vs ds Q g r h => ?_⟩
  · dsimp only [pc] at z ⊢; unfold allD at z ⊢
    split at z
    · split at z
      · exact q _ z
      · exact z
    · exact z
  · dsimp only [pc] at h; unfold allD at h
    split at h
    · split at h
      · rename_i bs eb
        cases r with | cons r1 r2 => cases r2; cases r1 with | lst s l => exact ⟨_, bs, rfl, by rw [← toBs_vs l eb]; exact g.sub.lstL s, h _ _ _ (Step.refl g) (.bl _)⟩
      · exact h.elim
    · exact h.elim
theorem cd_isi : CallD X B (.builtin "isinstance") (pc isiD) := by
  refine ⟨fun O x Q Q' q z => ?_, _, call_isi, fun O G H vs ds Q g r h => ?_⟩
  · dsimp only [pc] at z ⊢; unfold isiD at z ⊢
    split at z
    · exact ⟨z.1, z.2.1, q _ z.2.2⟩
    · exact z
  · dsimp only [pc] at h; unfold isiD at h
    split at h
    · obtain ⟨h1, h2, h3⟩ := h
      obtain ⟨t, ht⟩ := Option.isSome_iff_exists.mp h2
      cases r with
      | cons r1 r2 =>
        cases r2 with
        | cons r3 r4 =>
          cases r4
          cases r3
          exact ⟨_, _, _, _, _, rfl, .ty _, r1.ty g.sub ht, kit_isi ht h1, h3 _ _ _ (Step.refl g) (.bl _)⟩
    · exact h.elim
/-- isinstance(x, (A, B, ..)) -/
abbrev dIsiT (m : DE) (mA : DA) : DE := fun ρ O Q E => m ρ O (fun x O1 => mA ρ O1 (fun cs O2 => cs.length ≤ 100 ∧ (tyD x).isSome = true ∧ match isAny x cs with
  | some b => Q (.bl b) O2
  | none => False) E) E
theorem d_isiT {es : List Expr} {mA : DA} {k : Nat} {tpos : Pos} (hg : Gl X "isinstance") (hm : X.mg "isinstance" = none) (he : DPE X L e m) (ha : DPA X L es mA)
    (hs : starEach [e, .Tuple es k tpos] X.env = (false, eval e X.env) :: starEach [.Tuple es k tpos] X.env) (hs2 : starEach [.Tuple es k tpos] X.env = (false, eval (.Tuple es k tpos) X.env) :: starEach [] X.env) (hpl : (backTo pos (starEach [.Tuple es k tpos] X.env)).any (·.1) = false) :
    DPE X L (.Call (.Name "isinstance" p) [e, .Tuple es k tpos] [] pos) (dIsiT m mA) := by
  refine ⟨fun ρ O Q Q' E E' q hx x => he.mo _ _ _ _ _ _ (fun _ _ z => ha.mo _ _ _ _ _ _ (fun cs _ y => ⟨y.1, y.2.1, ?_⟩) hx z) hx x, pe_imp (pe_callB call_isiT hg hm boot_isinstance (pa_cons he.run (pa_cons (pe_tup ha.run) pa_nil hs2) hs) (by decide) (by decide) hs hpl) fun σ H Q ⟨G, O, ρ, g, rs, q⟩ => ?_⟩
  · obtain ⟨_, _, y⟩ := y
    split at y
    · exact q _ _ y
    · exact y
  · refine up_of he.mo g rs q fun x v O1 G1 H1 q1 s1 r1 => ?_
    refine upA_of ha.mo s1.good (rs.step s1) (mo_step ha.mo s1 q1) fun cs vs O2 G2 H2 q2 s2 r2 => ?_
    obtain ⟨h1, h2, h3⟩ := q2
    obtain ⟨t, ht⟩ := Option.isSome_iff_exists.mp h2
    refine ⟨by rw [r2.length]; exact Nat.le_trans h1 (by decide), fun p np => ?_⟩
    split at h3
    · rename_i b eb
      obtain ⟨us, pu, ku⟩ := isAny_run ht r2 eb
      have s3 := Step.new (o := .tup vs) s2.good np
      exact ⟨_, _, _, _, _, _, rfl, upd_same, pu, (r1.mono (s2.trans s3).grow).ty s3.good.sub ht, ku, h3 _ _ _ ((s1.trans s2).trans s3) (.bl _)⟩
    · exact h3.elim
/-- a built-in class's name as a value -/
theorem d_ty {x : Str} {n : String} (hg : Gl X x) (hm : X.mg x = none) (hv : bootBuiltins x = some (.type n)) (hn : x ≠ "__name__") (hd : (x == ("__debug__" : Str)) = false) : DPE X L (.Name x pos) (dC (.opq (.ty n))) := d_c (v := .ty n) (pe_bltn hg hm hv rfl hn hd) fun _ => .opq _
theorem d_globI {x : Str} {i : Int} {t : Tok} (hg : Gl X x) (hm : X.mg x = some (.int i t)) (hd : (x == ("__debug__" : Str)) = false) : DPE X L (.Name x pos) (dC (.int i)) := d_c (v := .int i) (pe_glob hg hm ⟨t, rfl⟩ hd) fun _ => .int i
theorem d_globS {x : Str} {i : Str} {t : Tok} (hg : Gl X x) (hm : X.mg x = some (.str i t)) (hd : (x == ("__debug__" : Str)) = false) : DPE X L (.Name x pos) (dC (.str i)) := d_c (v := .str i) (pe_glob hg hm ⟨t, rfl⟩ hd) fun _ => .str i
def toSs : List D → Option (List Str)
  | [] => some []
  | .str b :: r => (toSs r).map (b :: ·)
  | _ => none
theorem toSs_vs {K : PySem.W.Frag} {G : Hp} : ∀ {ds : List D} {vs : List V} {bs : List Str}, RpL K G vs ds → toSs ds = some bs → vs = bs.map V.str
  | [], _, _, .nil, e => by cases e; rfl
  | .str b :: r, _, _, .cons (.str _) t, e => by
    simp only [toSs, Option.map_eq_some_iff] at e
    obtain ⟨bs, e1, rfl⟩ := e
    rw [toSs_vs t e1]; rfl
def joinOn (a : Str) (xs : List D) (Q : D → Prop) : Prop := match toSs xs with
  | some ys => (ys.map (·.length)).sum + ys.length * a.length ≤ 16777216 ∧ Q (.str (Txt.join a ys))
  | none => False
def joinD (a : Str) : D → (D → Prop) → Prop
  | .lst xs, Q => joinOn a xs Q
  | .tup xs, Q => joinOn a xs Q
  | _, _ => False
theorem joinOn_mo {a : Str} {xs : List D} {Q Q' : D → Prop} (h : ∀ d, Q d → Q' d) (z : joinOn a xs Q) : joinOn a xs Q' := by
  unfold joinOn at z ⊢
  split at z
  · exact ⟨z.1, h _ z.2⟩
  · exact z
theorem joinD_mo : ∀ a y Q Q', (∀ d, Q d → Q' d) → joinD a y Q → joinD a y Q' := fun x y Q Q' h z => by
  unfold joinD at z ⊢
  split at z
  · exact joinOn_mo h z
  · exact joinOn_mo h z
  · exact z
/-- s.m(e) of a text -/
abbrev dM1 (o : Str → D → (D → Prop) → Prop) (mo m : DE) : DE := fun ρ O Q E => mo ρ O (fun x O1 => match x with
  | .str a => m ρ O1 (fun y O2 => o a y fun d => Q d O2) E
  | _ => False) E
theorem mo_m1 {o : Str → D → (D → Prop) → Prop} (ho : ∀ a y Q Q', (∀ d, Q d → Q' d) → o a y Q → o a y Q') (h1 : Mo mo') (h2 : Mo m) : Mo (dM1 o mo' m) := fun ρ O Q Q' E E' q hx x => h1 ρ _ _ _ _ _ (fun d O1 z => by
  cases d <;> first
    | exact h2 ρ _ _ _ _ _ (fun _ _ y => ho _ _ _ _ (fun _ => q _ _) y) hx z
    | exact z) hx x
theorem d_m1 {id : String} {name : Str} {apos : Pos} {r : V → List V → Hp → VK → Prop} {o' : Str → D → (D → Prop) → Prop} (slot : Slot "str" name id) (ty : typeOf (.builtin id) = pure (.type "method_descriptor")) (rule : MtR X id r)
    (hr : ∀ O G H a vy y Q, Good X.K L.B O G H → Rp X.K G vy y → o' a y (fun d => kv X.K L.B O G H Q d O) → r (.str a) [vy] H Q) (mo1 : ∀ a y Q Q', (∀ d, Q d → Q' d) → o' a y Q → o' a y Q') (ho : DPE X L o mo') (he : DPE X L e m)
    (hs : starEach [e] X.env = [(false, eval e X.env)]) (hbase : attributeBase o name X.env (eval o X.env) = eval o X.env) (hline : (apos.endLine == pos.line) = true) :
    DPE X L (.Call (.Attribute o name apos) [e] [] pos) (dM1 o' mo' m) := by
  refine ⟨mo_m1 mo1 ho.mo he.mo, pe_imp (pe_m1 slot ty rule ho.run he.run hs hbase hline) fun σ H Q ⟨G, O, ρ, g, rs, q⟩ => ?_⟩
  refine up_of ho.mo g rs q fun x v O1 G1 H1 q1 s1 r1 => ?_
  cases r1 with
  | str a =>
    refine ⟨⟨a, rfl⟩, up_of he.mo s1.good (rs.step s1) (mo_step he.mo s1 q1) fun y vy O2 G2 H2 q2 s2 r2 => ?_⟩
    exact hr O2 G2 H2 a vy y Q s2.good r2 (mo1 _ _ _ _ (fun _ z => z.step (s1.trans s2)) q2)
  | non => exact q1.elim
  | bl => exact q1.elim
  | int => exact q1.elim
  | opq => exact q1.elim
  | lst => exact q1.elim
  | tup => exact q1.elim
  | dic => exact q1.elim
  | ins => exact q1.elim
  | exc => exact q1.elim
  | lam => exact q1.elim
  | nk => exact q1.elim
theorem d_join {apos : Pos} (ho : DPE X L o mo') (he : DPE X L e m) (hs : starEach [e] X.env = [(false, eval e X.env)]) (hbase : attributeBase o "join" X.env (eval o X.env) = eval o X.env) (hline : (apos.endLine == pos.line) = true) :
    DPE X L (.Call (.Attribute o "join" apos) [e] [] pos) (dM1 joinD mo' m) := by
  refine d_m1 F.slot_str_join F.type_str_join mt_join (fun O G H a vy y Q g ry h => ?_) joinD_mo ho he hs hbase hline
  unfold joinD at h
  split at h
  · unfold joinOn at h
    split at h
    · rename_i ys e1
      cases ry with
      | lst sq rl => exact ⟨a, _, ys, rfl, rfl, .inl (by rw [← toSs_vs rl e1]; exact g.sub.lstL sq), h.1, h.2 _ _ _ (Step.refl g) (.str _)⟩
    · exact h.elim
  · unfold joinOn at h
    split at h
    · rename_i ys e1
      cases ry with
      | tup sq rl => exact ⟨a, _, ys, rfl, rfl, .inr (by rw [← toSs_vs rl e1]; exact g.sub.sqT sq), h.1, h.2 _ _ _ (Step.refl g) (.str _)⟩
    · exact h.elim
  · exact h.elim
end
end EV
set_option Elab.async false
set_option linter.all false
set_option maxRecDepth 100000
set_option maxHeartbeats 4000000
namespace EV
open PySem PySem.Spec PyProof.Rows L2
inductive Src where
  | lst (a : Addr) | tup (a : Addr) | str (y : Str)
def SrcAt (K : PySem.W.Frag) (H : Hp) : Src → List V → Prop
  | .lst a, xs => SqL K H a xs
  | .tup a, xs => SqT K H a xs
  | .str y, xs => xs = y.cps.toList.map fun c => V.str ⟨#[c]⟩
def Src.fp : Src → List Addr
  | .lst a => [a]
  | .tup a => [a]
  | .str _ => []
/-- the iterator at it of the source stands at i -/
def Src.pos (s : Src) (it : Addr) (i : Nat) (h : Heap) : Prop := match s with
  | .lst a => h.IsListIter it a i
  | .tup a => h.IsTupleIter it a i
  | .str y => ∃ t, h.IsStrIter it (strIterType y) y t i
def SrcV (v : V) (s : Src) : Prop := match s with
  | .lst a => v = .ref a
  | .tup a => v = .ref a
  | .str y => v = .str y
theorem Src.pos_at {s : Src} {it : Addr} {i : Nat} {h h' : Heap} (p : s.pos it i h) (k : ∀ o, h.get? it = some o → h'.get? it = some o) : s.pos it i h' := by
  cases s with
  | lst a => exact p.at k
  | tup a => exact p.at k
  | str y => obtain ⟨t, o, e, r⟩ := p; exact ⟨t, o, k _ e, r⟩
theorem Src.pos_obj {s : Src} {it : Addr} {i : Nat} {h : Heap} (p : s.pos it i h) : ∃ o, h.get? it = some o ∧ ∀ v, o.data ≠ .cell v := by
  cases s with
  | lst a => obtain ⟨o, e, _, d⟩ := p; exact ⟨o, e, fun v q => by rw [d] at q; cases q⟩
  | tup a => obtain ⟨o, e, _, d⟩ := p; exact ⟨o, e, fun v q => by rw [d] at q; cases q⟩
  | str y => obtain ⟨t, o, e, _, d⟩ := p; exact ⟨o, e, fun v q => by rw [d] at q; cases q⟩
section
variable {X : Cx} {pins : List (Addr × Obj)} {σ : L2.St} {H : Hp} {s : Shared}
theorem src_inj (I : Inv X pins σ H s) {r : Src} {xs ys : List V} (h1 : SrcAt X.K H r xs) (h2 : SrcAt X.K H r ys) : xs = ys := by
  cases r with
  | lst a => exact I.list_inj h1 h2
  | tup a => exact I.tuple_inj h1 h2
  | str y => exact h1.trans h2.symm
/-- what the source's iterator draws, where it stands -/
theorem src_draws (I : Inv X pins σ H s) {r : Src} {xs : List V} {it : Addr} {i : Nat} (h : SrcAt X.K H r xs) (p : r.pos it i s.heap) (A : Around) (hh : A.handled = none) (ne : it ∉ r.fp) :
    ∃ (fp : List Addr) (P : Nat → Value → Prop) (St : Nat → Heap → Prop), fp = it :: r.fp ∧ Draws X.prog X.w A it fp xs.length P St ∧ St i s.heap ∧ (∀ j u, P j u → ∃ x, xs[j]? = some x ∧ RelV x u) ∧ ∀ j h, St j h → r.pos it j h := by
  cases r with
  | lst a =>
    obtain ⟨its, rv, pl, _⟩ := I.list h
    refine ⟨[it, a], fun i v => its.toArray[i]? = some v, fun i h => h.IsListIter it a i ∧ h.IsList a its.toArray, rfl, by rw [rv.length]; exact Draws.list hh it a (fun z => ne (by simp [Src.fp, z])) its.toArray, ⟨p, pl.isList⟩, fun j u hj => ?_, fun j h st => st.1⟩
    have hj' : its[j]? = some u := by simpa using hj
    cases e : xs[j]? with
    | none => rw [rv.none_of e] at hj'; cases hj'
    | some x =>
      obtain ⟨u', e2, r2⟩ := rv.get e
      rw [hj'] at e2
      cases e2
      exact ⟨x, rfl, r2⟩
  | tup a =>
    obtain ⟨its, rv, pl, _⟩ := I.tuple h
    refine ⟨[it, a], fun i v => its.toArray[i]? = some v, fun i h => h.IsTupleIter it a i ∧ h.IsTuple a its.toArray, rfl, by rw [rv.length]; exact Draws.tuple hh it a (fun z => ne (by simp [Src.fp, z])) its.toArray, ⟨p, pl⟩, fun j u hj => ?_, fun j h st => st.1⟩
    have hj' : its[j]? = some u := by simpa using hj
    cases e : xs[j]? with
    | none => rw [rv.none_of e] at hj'; cases hj'
    | some x =>
      obtain ⟨u', e2, r2⟩ := rv.get e
      rw [hj'] at e2
      cases e2
      exact ⟨x, rfl, r2⟩
  | str y =>
    obtain ⟨t, p⟩ := p
    have h : xs = y.cps.toList.map fun c => V.str ⟨#[c]⟩ := h
    refine ⟨[it], _, _, rfl, by rw [h, List.length_map, Array.length_toList]; exact Draws.text hh it y t, p, fun j u hj => ?_, fun j h st => ⟨t, st⟩⟩
    obtain ⟨c, u', e, rfl⟩ := hj
    refine ⟨.str ⟨#[c]⟩, ?_, ⟨u', rfl⟩⟩
    rw [h, List.getElem?_map, Array.getElem?_toList, e]
    rfl
end
def Itzz (K : PySem.W.Frag) (r1 r2 : Src) : It :=
  ⟨fun i H => ∃ (xs ys : List V) (x y : V), SrcAt K H r1 xs ∧ SrcAt K H r2 ys ∧ xs[i]? = some x ∧ ys[i]? = some y,
    fun i H v H' => ∃ T x y, v = .ref T ∧ H T = none ∧ H' = upd H T (.tup [x, y]) ∧ (∀ xs, SrcAt K H r1 xs → xs[i]? = some x) ∧ ∀ ys, SrcAt K H r2 ys → ys[i]? = some y,
    fun i H => ∃ xs ys : List V, SrcAt K H r1 xs ∧ SrcAt K H r2 ys ∧ i = min xs.length ys.length⟩
theorem turn_zz {P : Program} {w : World} {K : PySem.W.Frag} {elts : List Expr} {kk : Nat} {tpos : Pos} {z TI TO i1 i2 : Addr} {r1 r2 : Src} (S : ZipSep2 z TI TO i1 i2 (i1 :: r1.fp) (i2 :: r2.fp)) (n1 : i1 ∉ r1.fp) (n2 : i2 ∉ r2.fp) (nTI : TI ∉ r1.fp ∧ TI ∉ r2.fp) :
    Turn P w K (.Tuple elts kk tpos) (Itzz K r1 r2) [z, TI, TO, i1, i2] z (fun i h => IsZip h z TI TO .none ∧ IsTupOf2 h TI (.ref i1) (.ref i2) ∧ (∃ x y, IsTupOf2 h TO x y) ∧ r1.pos i1 i h ∧ r2.pos i2 i h) where
  mem := by simp
  obj := fun i h st c hc => by
    obtain ⟨hz, hTI, ⟨x, y, hTO⟩, p1, p2⟩ := st
    have e' : c = z ∨ c = TI ∨ c = TO ∨ c = i1 ∨ c = i2 := by simpa using hc
    rcases e' with q | q | q | q | q
    · rw [q]; exact ⟨_, hz, fun v q => nomatch q⟩
    · rw [q]; exact ⟨_, hTI, fun v q => nomatch q⟩
    · rw [q]; exact ⟨_, hTO, fun v q => nomatch q⟩
    · rw [q]; exact Src.pos_obj p1
    · rw [q]; exact Src.pos_obj p2
  keep := fun i h h' st k => by
    obtain ⟨hz, hTI, ⟨x, y, hTO⟩, p1, p2⟩ := st
    exact ⟨k z (by simp) _ hz, k TI (by simp) _ hTI, ⟨x, y, k TO (by simp) _ hTO⟩, Src.pos_at p1 fun o q => k i1 (by simp) o q, Src.pos_at p2 fun o q => k i2 (by simp) o q⟩
  item := by
    intro X hP hw hK hc i pins s σ H E I hf st hg
    subst hP hw hK
    obtain ⟨hz, hTI, hTO, p1, p2⟩ := st
    obtain ⟨xs, ys, x, y, q1, q2, hx, hy⟩ := hg
    have hh : X.A.in1.handled = none := I.ok.hd hc
    obtain ⟨fp1, P1, St1, rfl, D1, st1, rel1, pos1⟩ := src_draws I q1 p1 X.A.in1 hh n1
    obtain ⟨fp2, P2, St2, rfl, D2, st2, rel2, pos2⟩ := src_draws I q2 p2 X.A.in1 hh n2
    have W := WalksT.zipD2 (A := X.A) S D1 D2
    have hi : i < min xs.length ys.length := by
      have a := getElem?_lt hx
      have b := getElem?_lt hy
      omega
    refine W.item i s _ E hi ⟨hz, hTI, hTO, st1, st2⟩ fun T vals h' tk hp hT hTup mid keep => ?_
    refine ⟨_, rfl, W.go elts kk tpos i T { s with heap := h', toks := tk } _ E mid fun h2 stn keep2 => ?_⟩
    obtain ⟨u, v, pu, pv, rfl⟩ := hp
    obtain ⟨x', ex, ru⟩ := rel1 i u pu
    obtain ⟨y', ey, rv⟩ := rel2 i v pv
    rw [hx] at ex
    rw [hy] at ey
    cases ex
    cases ey
    have nT : T ∉ [z, TO, i1, i2] := W.apart i T h' mid
    have hT2 : h2.IsTuple T #[u, v] := hTup.at fun o e => keep2 T o nT e
    have new : ObjOk X.prog X.w (upd H T (.tup [x, y])) h2 T (.tup [x, y]) := ⟨by show 2 ≤ sizeLine; decide, [u, v], .cons ru (.cons rv .nil), hT2⟩
    have kk2 : ∀ c o, c ∉ [z, TI, TO, i1, i2] → s.heap.get? c = some o → h2.get? c = some o := fun c o hc e => by
      have n : c ∉ [z, TO, i1, i2] := fun q => hc (by simp at q ⊢; rcases q with q | q | q | q <;> simp [q])
      exact keep2 c o n (keep c o n e)
    have I1 : Inv X pins σ (upd H T (.tup [x, y])) { s with heap := h2, toks := tk } := I.turnedNew (t' := tk) (ch := [z, TI, TO, i1, i2]) kk2 hf hT new
    refine ⟨.ref T, _, I1, rfl, ⟨T, x, y, rfl, I.hok.fresh hT, rfl, fun l hl => by rw [src_inj I hl q1]; exact hx, fun l hl => by rw [src_inj I hl q2]; exact hy⟩, ⟨stn.1, stn.2.1, stn.2.2.1, pos1 _ _ stn.2.2.2.1, pos2 _ _ stn.2.2.2.2⟩, fun c hcm => ?_⟩
    have hlt : c < s.heap.objs.size := by
      have e' : c = z ∨ c = TI ∨ c = TO ∨ c = i1 ∨ c = i2 := by simpa using hcm
      rcases e' with q | q | q | q | q
      · rw [q]; exact Heap.lt_size hz
      · rw [q]; exact Heap.lt_size hTI
      · obtain ⟨a, b, hTO⟩ := hTO
        rw [q]; exact Heap.lt_size hTO
      · rw [q]; obtain ⟨o, e, _⟩ := Src.pos_obj p1; exact Heap.lt_size e
      · rw [q]; obtain ⟨o, e, _⟩ := Src.pos_obj p2; exact Heap.lt_size e
    rw [upd_ne (Nat.ne_of_lt (Nat.lt_of_lt_of_le hlt hT))]
    exact (hf c hcm).1
  done := by
    intro X hP hw hK hc i pins s σ H E I hf st hg
    subst hP hw hK
    obtain ⟨hz, hTI, hTO, p1, p2⟩ := st
    obtain ⟨xs, ys, q1, q2, hend⟩ := hg
    have hh : X.A.in1.handled = none := I.ok.hd hc
    obtain ⟨fp1, P1, St1, rfl, D1, st1, rel1, pos1⟩ := src_draws I q1 p1 X.A.in1 hh n1
    obtain ⟨fp2, P2, St2, rfl, D2, st2, rel2, pos2⟩ := src_draws I q2 p2 X.A.in1 hh n2
    have W := WalksT.zipD2 (A := X.A) S D1 D2
    subst hend
    refine W.done s _ E ⟨hz, hTI, hTO, st1, st2⟩ fun h' tk keep => ⟨rfl, I.turnedL (t' := tk) (ch := [z, TI, TO, i1, i2]) (fun c o hc e => ?_) hf⟩
    exact keep c o (fun q => hc (by simp at q ⊢; rcases q with q | q | q | q <;> simp [q])) e
  self := fun A i s Q E st h => wpAny_pyIter_zip st.1 h
section
variable {X : Cx} {L : Pl} {pins : List (Addr × Obj)} {σ : L2.St} {H : Hp} {s : Shared} {e e2 : Expr} {mA : DA} {pos p : Pos}
theorem src_begins (I : Inv X pins σ H s) {r : Src} {xs : List V} {v : V} {u : Value} (hv : SrcV v r) (h : SrcAt X.K H r xs) (ru : RelV v u) :
    ∃ (o : Obj) (Hc : Heap → Prop), Begins u o Hc ∧ Hc s.heap ∧ (∀ it h', h'.get? it = some o → r.pos it 0 h') ∧ ∀ b ∈ r.fp, b < s.heap.objs.size := by
  cases r with
  | lst a =>
    cases (show v = .ref a from hv)
    cases ru
    obtain ⟨its, rv, pl, _⟩ := I.list h
    refine ⟨_, _, begins_list a its.toArray, pl.isList, fun it h' e => ⟨_, e, rfl, rfl⟩, fun b hb => ?_⟩
    have hb : b = a := by simpa [Src.fp] using hb
    rw [hb]
    obtain ⟨o, e, _⟩ := pl.isList
    exact Heap.lt_size e
  | tup a =>
    cases (show v = .ref a from hv)
    cases ru
    obtain ⟨its, rv, pl, _⟩ := I.tuple h
    refine ⟨_, _, begins_tuple a its.toArray, pl, fun it h' e => ⟨_, e, rfl, rfl⟩, fun b hb => ?_⟩
    have hb : b = a := by simpa [Src.fp] using hb
    rw [hb]
    obtain ⟨o, e, _⟩ := (show s.heap.IsTuple a its.toArray from pl)
    exact Heap.lt_size e
  | str y =>
    cases (show v = .str y from hv)
    obtain ⟨t, rfl⟩ := ru
    exact ⟨_, _, begins_text y t, trivial, fun it h' e => ⟨t, _, e, rfl, rfl⟩, fun b hb => by cases hb⟩
def iZz (K : PySem.W.Frag) (ta : TA) : TI := fun σ H R => ta σ H fun vs H1 => ∃ v1 v2 r1 r2, vs = [v1, v2] ∧ SrcV v1 r1 ∧ SrcV v2 r2 ∧ (∃ xs, SrcAt K H1 r1 xs) ∧ (∃ ys, SrcAt K H1 r2 ys) ∧ R (Itzz K r1 r2) H1
theorem pi_zz {ta : TA} {tpos : Pos} {elts : List Expr} {kk : Nat} (hg : Gl X "zip") (hm : X.mg "zip" = none) (ha : PA X [e, e2] ta)
    (hs : starEach [e, e2] X.env = (false, eval e X.env) :: starEach [e2] X.env) (hpl : (backTo pos (starEach [e2] X.env)).any (·.1) = false) :
    PI X (.Tuple elts kk tpos) (.Call (.Name "zip" p) [e, e2] [] pos) (iZz X.K ta) := by
  refine ⟨fun pins s σ H R I h => ?_⟩
  refine Call_ (ld_blt I hg hm PyProof.Rows.boot_zip (PyProof.Rows.callWith_type1 (thn (ha.run pos pins s σ H _ I h) fun us s1 ⟨vs, H1, I1, r1, q1⟩ => ?_) hs hpl))
  obtain ⟨v1, v2, c1, c2, ex, k1, k2, ⟨xs, a1⟩, ⟨ys, a2⟩, q⟩ := q1
  subst ex
  cases r1 with
  | cons r rr =>
    cases rr with
    | cons r' rr =>
      cases rr
      obtain ⟨o1, Hc1, B1, h1, p1, f1⟩ := src_begins I1 k1 a1 r
      obtain ⟨o2, Hc2, B2, h2, p2, f2⟩ := src_begins I1 k2 a2 r'
      refine zip_begins2 B1 B2 h1 h2 fun h' hz hTI hTO g1 g2 hsz hk => ?_
      refine wpAny_pyIter_zip hz ?_
      have S := zip_sep2 (N := s1.heap.objs.size) f1 f2
      have nf : ∀ {fp : List Addr} {c : Addr}, (∀ b ∈ fp, b < s1.heap.objs.size) → s1.heap.objs.size ≤ c → c ∉ fp := fun hf hc z => absurd (Nat.lt_of_lt_of_le (hf _ z) hc) (Nat.lt_irrefl _)
      have I2 : Inv X pins σ H1 { s1 with heap := h' } := I1.kept (t' := s1.toks) hk
      refine ⟨s1.heap.objs.size + 4, [s1.heap.objs.size + 4, s1.heap.objs.size + 2, s1.heap.objs.size + 3, s1.heap.objs.size, s1.heap.objs.size + 1], _, _, H1, rfl, I2,
        turn_zz S (nf f1 (Nat.le_refl _)) (nf f2 (Nat.le_succ _)) ⟨nf f1 (Nat.le_add_right _ _), nf f2 (Nat.le_add_right _ _)⟩, ⟨hz, hTI, ⟨_, _, hTO⟩, p1 _ _ g1, p2 _ _ g2⟩, fun b hb => ?_, q⟩
      have hb' : s1.heap.objs.size ≤ b := by
        have e' : b = s1.heap.objs.size + 4 ∨ b = s1.heap.objs.size + 2 ∨ b = s1.heap.objs.size + 3 ∨ b = s1.heap.objs.size ∨ b = s1.heap.objs.size + 1 := by simpa using hb
        rcases e' with q | q | q | q | q <;> rw [q]
        · exact Nat.le_add_right _ _
        · exact Nat.le_add_right _ _
        · exact Nat.le_add_right _ _
        · exact Nat.le_refl _
        · exact Nat.le_succ _
      exact I1.fpOk hb' (I1.hok.fresh hb')
def zipL (xs ys : List D) : List D := List.zipWith (fun a b => .tup [a, b]) xs ys
/-- the items of a datum that is shown -/
def itemsP : D → (List D → Prop) → Prop
  | .lst xs, Q => Q xs
  | .tup xs, Q => Q xs
  | .str y, Q => Q (charsD y)
  | _, _ => False
theorem itemsP_mo : ∀ {x : D} {Q Q' : List D → Prop}, (∀ d, Q d → Q' d) → itemsP x Q → itemsP x Q'
  | .lst _, _, _, h, z => h _ z
  | .tup _, _, _, h, z => h _ z
  | .str _, _, _, h, z => h _ z
def zipD : List D → (IL → Prop) → Prop
  | [x, y], Q => itemsP x fun xs => itemsP y fun ys => Q (tt1, zipL xs ys)
  | _, _ => False
theorem zipD_mo {x : List D} {Q Q' : IL → Prop} (h : ∀ d, Q d → Q' d) (z : zipD x Q) : zipD x Q' := by
  unfold zipD at z ⊢
  split at z
  · exact itemsP_mo (fun _ y => itemsP_mo (fun _ w => h _ w) y) z
  · exact z
abbrev dZip (mA : DA) : DI := fun ρ O Q E => mA ρ O (fun xs O1 => zipD xs fun l => Q l O1) E
/-- a datum that is walked, as a source -/
theorem src_of {K : PySem.W.Frag} {G : Hp} {v : V} {d : D} {Q : List D → Prop} (r : Rp K G v d) (h : itemsP d Q) : ∃ (c : Src) (xs : List V) (ds : List D), SrcV v c ∧ RpL K G xs ds ∧ (∀ H, Sub G H → SrcAt K H c xs) ∧ Q ds := by
  cases r with
  | lst s l => exact ⟨.lst _, _, _, rfl, l, fun H sb => sb.lstL s, h⟩
  | tup s l => exact ⟨.tup _, _, _, rfl, l, fun H sb => sb.sqT s, h⟩
  | str y =>
    refine ⟨.str y, _, charsD y, rfl, ?_, fun H _ => rfl, h⟩
    have : ∀ cs : List Nat, RpL K G (cs.map fun c => V.str ⟨#[c]⟩) (cs.map fun c => D.str ⟨#[c]⟩) := fun cs => by
      induction cs with
      | nil => exact .nil
      | cons c r ih => exact .cons (.str _) ih
    exact this _
  | non => exact h.elim
  | bl => exact h.elim
  | int => exact h.elim
  | opq => exact h.elim
  | dic => exact h.elim
  | ins => exact h.elim
  | exc => exact h.elim
  | lam => exact h.elim
  | nk => exact h.elim
theorem itd_zz {K : PySem.W.Frag} {B : Bo} {G0 : Hp} {c1 c2 : Src} {xs ys : List V} {ds es : List D} (r1 : RpL K G0 xs ds) (r2 : RpL K G0 ys es) (a1 : ∀ H, Sub G0 H → SrcAt K H c1 xs) (a2 : ∀ H, Sub G0 H → SrcAt K H c2 ys) : ItD K B G0 (Itzz K c1 c2) (tt1, zipL ds es) := fun i O G H g sb _ => by
  have sH := sb.trans g.sub
  have hl : (zipL ds es).length = min xs.length ys.length := by simp [zipL, r1.length, r2.length]
  refine ⟨fun d e => ?_, fun (h : i = (zipL ds es).length) => ⟨xs, ys, a1 H sH, a2 H sH, by rw [← hl]; exact h⟩⟩
  have e : (zipL ds es)[i]? = some d := e
  unfold zipL at e
  rw [List.getElem?_zipWith] at e
  split at e
  · rename_i d1 d2 e1 e2
    cases e
    obtain ⟨v1, f1, q1⟩ := r1.get e1
    obtain ⟨v2, f2, q2⟩ := r2.get e2
    refine ⟨⟨xs, ys, v1, v2, a1 H sH, a2 H sH, f1, f2⟩, fun x H' y => ?_⟩
    obtain ⟨T, x', y', rfl, nT, rfl, g1, g2⟩ := y
    have h1 := g1 xs (a1 H sH)
    have h2 := g2 ys (a2 H sH)
    rw [f1] at h1
    rw [f2] at h2
    cases h1
    cases h2
    exact ⟨_, Step.new g nT, new_tup g nT (.cons (q1.mono sb) (.cons (q2.mono sb) .nil))⟩
  · cases e
theorem d_zip {tpos : Pos} {elts : List Expr} {kk : Nat} (hg : Gl X "zip") (hm : X.mg "zip" = none) (ha : DPA X L [e, e2] mA)
    (hs : starEach [e, e2] X.env = (false, eval e X.env) :: starEach [e2] X.env) (hpl : (backTo pos (starEach [e2] X.env)).any (·.1) = false) :
    DPI X L (.Tuple elts kk tpos) (.Call (.Name "zip" p) [e, e2] [] pos) (dZip mA) := by
  refine ⟨fun ρ O Q Q' E E' q hx x => ha.mo ρ _ _ _ _ _ (fun _ _ z => zipD_mo (fun _ => q _ _) z) hx x, pi_imp (pi_zz hg hm ha.run hs hpl) fun σ H Q ⟨G, O, ρ, g, rs, q⟩ => ?_⟩
  refine upA_of ha.mo g rs q fun xs vs O1 G1 H1 q1 s1 r1 => ?_
  unfold zipD at q1
  split at q1
  · cases r1 with
    | cons r2 r3 =>
      cases r3 with
      | cons r4 r5 =>
        cases r5
        obtain ⟨c1, xs1, ds1, k1, l1, a1, q1⟩ := src_of r2 q1
        obtain ⟨c2, xs2, ds2, k2, l2, a2, q1⟩ := src_of r4 q1
        exact ⟨_, _, c1, c2, rfl, k1, k2, ⟨_, a1 _ s1.good.sub⟩, ⟨_, a2 _ s1.good.sub⟩, q1 _ _ _ s1 (itd_zz l1 l2 a1 a2)⟩
  · exact q1.elim
end
end EV
set_option Elab.async false
set_option linter.all false
set_option maxRecDepth 100000
set_option maxHeartbeats 4000000
namespace EV
open PySem PySem.Spec PyProof.Rows L2
/-- one turn: Qy where an item is kept, Qs where not -/
def elW (g : DG) (tt : DT) (te : DE) (ρ : Slots) (d : D) (O : Ow) (Qy : QD) (Qs : Ow → Prop) : Prop :=
  g d ρ fun ρ' => tt ρ' O (fun c O1 => bc c (te ρ' O1 Qy (fun _ _ => False)) (Qs O1)) (fun _ _ => False)
theorem lcW_cons {I : Ow → Prop} {g : DG} {tt : DT} {te : DE} {ρ : Slots} {d : D} {ds acc : List D} {O : Ow} {Q : List D → Ow → Prop} (hI : I O) (h : elW g tt te ρ d O (fun y O1 => acc.length < sizeLine ∧ lcW I g tt te ρ ds (acc ++ [y]) O1 Q) (fun O1 => lcW I g tt te ρ ds acc O1 Q)) : lcW I g tt te ρ (d :: ds) acc O Q := ⟨hI, h⟩
/-- each turn gives what f tells, and changes nothing -/
theorem lcW_fm {I : Ow → Prop} {g : DG} {tt : DT} {te : DE} {ρ : Slots} {O : Ow} (hI : I O) (f : D → Option D) {Q : List D → Ow → Prop} : ∀ {ds acc : List D}, (∀ d ∈ ds, ∀ (Qy : QD) (Qs : Ow → Prop), (∀ y, f d = some y → Qy y O) → (f d = none → Qs O) → elW g tt te ρ d O Qy Qs) → acc.length + ds.length ≤ sizeLine →
    Q (acc ++ ds.filterMap f) O → lcW I g tt te ρ ds acc O Q
  | [], acc, _, _, q => ⟨hI, by simpa using q⟩
  | d :: ds, acc, h, hl, q => by
    have hl' : acc.length + (ds.length + 1) ≤ sizeLine := hl
    refine lcW_cons hI (h d List.mem_cons_self _ _ (fun y e => ⟨by omega, lcW_fm hI f (fun d' m => h d' (List.mem_cons_of_mem _ m)) (by simp; omega) ?_⟩) (fun e => lcW_fm hI f (fun d' m => h d' (List.mem_cons_of_mem _ m)) (by omega) ?_))
    · rw [List.filterMap_cons, e] at q
      simpa using q
    · rw [List.filterMap_cons, e] at q
      exact q
theorem lcW_map {I : Ow → Prop} {g : DG} {te : DE} {ρ : Slots} {O : Ow} (hI : I O) (f : D → D) {Q : List D → Ow → Prop} {ds acc : List D} (h : ∀ d ∈ ds, ∀ (Qy : QD), Qy (f d) O → g d ρ fun ρ' => te ρ' O Qy fun _ _ => False) (hl : acc.length + ds.length ≤ sizeLine) (q : Q (acc ++ ds.map f) O) : lcW I g dYes te ρ ds acc O Q := by
  refine lcW_fm hI (fun d => some (f d)) (fun d m Qy Qs h1 _ => ?_) hl (by simpa [List.filterMap_eq_map'] using q)
  exact h d m Qy (h1 _ rfl)
/-- each turn gives something that P tells of -/
inductive Each (P : D → D → Prop) : List D → List D → Prop
  | nil : Each P [] []
  | cons {d y : D} {ds ys : List D} : P d y → Each P ds ys → Each P (d :: ds) (y :: ys)
theorem Each.length {P : D → D → Prop} : ∀ {ds ys : List D}, Each P ds ys → ys.length = ds.length
  | _, _, .nil => rfl
  | _, _, .cons _ r => congrArg (· + 1) r.length
theorem lcW_each {I : Ow → Prop} {g : DG} {te : DE} {ρ : Slots} {O : Ow} (hI : I O) (P : D → D → Prop) {Q : List D → Ow → Prop} : ∀ {ds acc : List D}, (∀ d ∈ ds, ∀ (Qy : QD), (∀ y, P d y → Qy y O) → g d ρ fun ρ' => te ρ' O Qy fun _ _ => False) → acc.length + ds.length ≤ sizeLine →
    (∀ ys, Each P ds ys → Q (acc ++ ys) O) → lcW I g dYes te ρ ds acc O Q
  | [], acc, _, _, q => ⟨hI, by simpa using q [] .nil⟩
  | d :: ds, acc, h, hl, q => by
    have hl' : acc.length + (ds.length + 1) ≤ sizeLine := hl
    refine ⟨hI, h d List.mem_cons_self _ fun y py => ⟨by omega, lcW_each hI P (fun d' m => h d' (List.mem_cons_of_mem _ m)) (by simp; omega) fun ys r => ?_⟩⟩
    simpa using q (y :: ys) (.cons py r)
theorem toBs_map {α : Type} (f : α → Bool) : ∀ xs : List α, toBs (xs.map fun x => .bl (f x)) = some (xs.map f)
  | [] => rfl
  | x :: xs => by simp [toBs, toBs_map f xs]
theorem allD_of {xs : List D} {bs : List Bool} {Q : D → Prop} (h : toBs xs = some bs) (q : Q (.bl (bs.all id))) : allD [.lst xs] Q := by
  simp only [allD, h]
  exact q
theorem anyD_of {xs : List D} {bs : List Bool} {Q : D → Prop} (h : toBs xs = some bs) (q : Q (.bl (bs.any id))) : anyD [.lst xs] Q := by
  simp only [anyD, h]
  exact q
def co (x : Str) : List Nat := x.cps.toList
theorem co_len (x : Str) : (co x).length = x.length := by simp [co]; rfl
theorem co_app (x y : Str) : co (x ++ y) = co x ++ co y := by
  show (x.cps ++ y.cps).toList = _
  simp [co]
theorem fold_sing (acc : Array Nat) : ∀ cs : List Nat, ((cs.map fun c => (⟨#[c]⟩ : Str)).foldl (fun acc p => acc ++ (Str.empty).cps ++ p.cps) acc).toList = acc.toList ++ cs
  | [] => by simp
  | c :: cs => by
    rw [List.map_cons, List.foldl_cons, fold_sing _ cs]
    simp [Str.empty]
theorem join_sing (cs : List Nat) : co (Txt.join Str.empty (cs.map fun c => ⟨#[c]⟩)) = cs := by
  cases cs with
  | nil => rfl
  | cons c cs =>
    show (((cs.map fun c => (⟨#[c]⟩ : Str))).foldl (fun acc p => acc ++ (Str.empty).cps ++ p.cps) #[c]).toList = c :: cs
    rw [fold_sing]
    rfl
theorem toSs_map {α : Type} (f : α → Str) : ∀ xs : List α, toSs (xs.map fun x => .str (f x)) = some (xs.map f)
  | [] => rfl
  | x :: xs => by simp [toSs, toSs_map f xs]
theorem co_cut (z : Str) (lo hi : Option Int) : co (cutS z lo hi) = ((co z).drop (HT.sIx z.length 0 lo)).take (HT.sIx z.length z.length hi - HT.sIx z.length 0 lo) := by
  unfold co cutS
  simp
theorem cut_to (z : Str) {k : Int} (h0 : 0 ≤ k) (h1 : k ≤ z.length) : co (cutS z none (some k)) = (co z).take k.toNat := by
  rw [co_cut, HT.sIx_none]
  have e : HT.sIx z.length z.length (some k) = k.toNat := by
    show (if k < 0 then (k + (z.length : Int)).toNat else min k.toNat z.length) = k.toNat
    rw [if_neg (by omega)]
    omega
  rw [e, List.drop_zero, Nat.sub_zero]
theorem cut_from (z : Str) {k : Int} (h0 : 0 ≤ k) (h1 : k ≤ z.length) : co (cutS z (some k) none) = (co z).drop k.toNat := by
  rw [co_cut, HT.sIx_none]
  have e : HT.sIx z.length 0 (some k) = k.toNat := by
    show (if k < 0 then (k + (z.length : Int)).toNat else min k.toNat z.length) = k.toNat
    rw [if_neg (by omega)]
    omega
  rw [e, List.take_of_length_le]
  rw [List.length_drop, co_len]
  omega
/-- a for by what holds ahead of each turn -/
theorem forW_at {I : Ow → Prop} {g : DG} {b : DS} {A : DEnds} (ds0 : List D) (J : Nat → Slots → Ow → Prop) (hJ : ∀ i r O, J i r O → I O) (h : ∀ i d, ds0[i]? = some d → ∀ ρ O, J i ρ O → ∀ N : Slots → Ow → Prop, (∀ r O, J (i + 1) r O → N r O) → g d ρ fun ρ' => b { A with nx := N, ct := N, bk := A.nx } ρ' O) (he : ∀ r O, J ds0.length r O → A.nx r O) :
    ∀ {ds : List D} {i : Nat} {ρ : Slots} {O : Ow}, ds = ds0.drop i → i ≤ ds0.length → J i ρ O → forW I g b A ds ρ O
  | [], i, _, _, e, hl, hi => ⟨hJ _ _ _ hi, he _ _ (by
      have : ds0.length ≤ i := by
        have := congrArg List.length e
        simp at this
        omega
      have e2 : i = ds0.length := by omega
      rw [← e2]; exact hi)⟩
  | d :: ds, i, ρ, O, e, hl, hi => by
    have hlt : i < ds0.length := by
      have := congrArg List.length e
      simp at this
      omega
    have ed : ds0.drop i = ds0[i] :: ds0.drop (i + 1) := List.drop_eq_getElem_cons hlt
    rw [ed] at e
    injection e with e1 e2
    exact ⟨hJ _ _ _ hi, h i d (by rw [e1]; exact List.getElem?_eq_getElem hlt) ρ O hi (forW I g b A ds) fun r O hr => forW_at ds0 J hJ h he e2 hlt hr⟩
end EV
set_option Elab.async false
set_option linter.all false
set_option maxRecDepth 100000
set_option maxHeartbeats 4000000
namespace EV
open PySem PySem.Spec PyProof.Rows L2
def putD (f : Str) (v : D) : List (Str × D) → List (Str × D)
  | [] => [(f, v)]
  | (g, x) :: r => if g = f then (g, v) :: r else (g, x) :: putD f v r
section
variable {K : PySem.W.Frag} {G H : Hp}
theorem RpF.look {f : Str} : ∀ {fs : List (Str × V)} {ds : List (Str × D)} {d : D}, RpF K G fs ds → ds.lookup f = some d → ∃ v, fs.lookup f = some v ∧ Rp K G v d
  | _, _, _, .nil, e => by simp at e
  | (k, v) :: fs, (_, x) :: ds, d, .cons r t, e => by
    rw [List.lookup_cons] at e ⊢
    cases hq : f == k with
    | true => rw [hq] at e; cases e; exact ⟨v, rfl, r⟩
    | false => rw [hq] at e; exact RpF.look t e
theorem RpF.put {f : Str} {v : V} {d : D} (rv : Rp K G v d) : ∀ {fs : List (Str × V)} {ds : List (Str × D)}, RpF K G fs ds → RpF K G (putF f v fs) (putD f d ds)
  | _, _, .nil => .cons rv .nil
  | (k, x) :: fs, (_, y) :: ds, .cons r t => by
    unfold putF putD
    by_cases h : k = f
    · rw [if_pos h, if_pos h]; exact .cons rv t
    · rw [if_neg h, if_neg h]; exact .cons r (RpF.put rv t)
theorem RpF.length : ∀ {fs : List (Str × V)} {ds : List (Str × D)}, RpF K G fs ds → fs.length = ds.length
  | _, _, .nil => rfl
  | _, _, .cons _ t => congrArg (· + 1) (RpF.length t)
end
section
variable {X : Cx} {L : Pl} {e o a b c : Expr} {es rest : List Expr} {m mo' ma mb mc : DE} {mt mu : DT} {mA mK : DA} {pos p apos pos' : Pos}
variable {K : PySem.W.Frag} {B : Bo} {O : Ow} {W : L2.St → XK} {G H : Hp} {σ : L2.St} {ρ : Slots}
/-- the field f of an instance of C -/
def fldD (C : Addr) (f : Str) : D → (D → Prop) → Prop
  | .ins C' fs, Q => C' = C ∧ match fs.lookup f with
    | some d => Q d
    | none => False
  | _, _ => False
/-- o.f = e, o a handle -/
abbrev dSetF (C : Addr) (f : Str) (mo m : DE) : DS := fun A ρ O => m ρ O (fun d O1 => mo ρ O1 (fun x O2 => match x with
  | .opq (.ref p) => ∃ fs, O2 p = some (.ins C fs) ∧ fs.length < 1000 ∧ A.nx ρ (oset O2 p (.ins C (putD f d fs)))
  | _ => False) (fun x O1 => A.ex x ρ O1)) (fun x O1 => A.ex x ρ O1)
theorem d_setF {C : Addr} {f : Str} (cl : Cls X.K C) (na : NoAttr X.K C f) (ho : DPE X L o mo') (he : DPE X L e m) (hs : swapsWith e (some (.Attribute o f pos')) pos.line X.env = pure false) : DPS X L (.Assign [.Attribute o f pos'] e pos) (dSetF C f mo' m) := by
  refine ⟨fun A A' ρ O l z => he.mo _ _ _ _ _ _ (fun d O1 y => ho.mo _ _ _ _ _ _ (fun x O2 w => ?_) (fun x _ y => l.ex _ _ _ y) y) (fun x _ y => l.ex _ _ _ y) z, ps_imp (ps_fld ho.run he.run hs) fun Dn σ H ⟨G, O, ρ, g, rs, q⟩ => ?_⟩
  · split at w
    · obtain ⟨fs, a, b, c⟩ := w
      exact ⟨fs, a, b, l.nx _ _ c⟩
    · exact w
  · refine upE he.mo g rs q fun d v O1 G1 H1 q1 s1 r1 => ?_
    refine up_of ho.mo s1.good (rs.step s1) (ho.mo _ _ _ _ _ _ (fun _ _ z => z) (fun x _ z => (kx_of rs z).step s1) q1) fun x w O2 G2 H2 q2 s2 r2 => ?_
    split at q2
    · rename_i p
      cases r2
      obtain ⟨fs, ep, hl, q2⟩ := q2
      obtain ⟨nG, nb, dx, vs, hp, rf⟩ := s2.good.own p _ ep
      refine ⟨p, C, dx, vs, rfl, hp, cl, na, by rw [rf.length]; exact hl, ?_⟩
      have st := Step.put (o := .ins C dx (putF f v vs)) (d := .ins C (putD f d fs)) s2.good nG nb ⟨dx, _, upd_same, rf.put (r1.mono s2.grow)⟩ (.inl (by rw [ep]; exact Option.some_ne_none _))
      exact q2 σ _ _ ((s1.trans s2).trans st) (rs.step ((s1.trans s2).trans st))
    · exact q2.elim
theorem make_step {C x dx : Addr} (g : Good K B O G H) (nx : H x = none) (nd : H dx = none) (hd : dx ≠ x) : Step K B O G H (oset O x (.ins C [])) G (upd (upd H dx (.own x)) x (.ins C dx [])) := by
  have s1 := Step.newH (o := .own x) g nd
  have nx1 : upd H dx (.own x) x = none := by rw [upd_ne hd.symm]; exact nx
  exact s1.trans (new_own s1.good nx1 ⟨dx, [], upd_same, .nil⟩)
/-- C(..), shown as it is behind __init__ -/
def mkF (C : Addr) (sp : DSp) (ds : List D) (O : Ow) (Q : QD) (E : QX) : Prop := ∀ p, O p = none → spM sp (.opq (.ref p) :: ds) (oset O p (.ins C [])) (fun d O2 => d = .non ∧ ∃ C' fs, O2 p = some (.ins C' fs) ∧ Q (.ins C' fs) (odel O2 p)) E
theorem run_mkF {C x dx : Addr} {sp : DSp} {vs : List V} {ds : List D} {Q : VK} {E : XK} (g : Good K B O G H) (r : RpL K G vs ds) (nx : H x = none) (nd : H dx = none) (hd : dx ≠ x) (h : mkF C sp ds O (kv K B O G H Q) (kx K B O G H E)) :
    spD K sp (.ref x :: vs) (upd (upd H dx (.own x)) x (.ins C dx [])) (fun v H2 => v = .non ∧ Q (.ref x) H2) E := by
  have s := make_step (C := C) g nx nd hd
  refine ⟨G, _, _, s.good.none, .cons (.opq _) r, spM_mo (fun d O2 z => kv.lift s.good fun v G' H' t rv => ?_) (fun x O2 z => kx.lift s.good (z.step s)) (h x (g.fresh nx))⟩
  obtain ⟨rfl, C', fs', ey, z⟩ := z
  cases rv
  obtain ⟨G2, f, rp⟩ := Step.freeze t.good (fun _ h => by cases h) ey
  exact ⟨rfl, z _ _ _ ((s.trans t).trans f) rp⟩
structure DPK (X : Cx) (L : Pl) (kws : List Keyword) (m : DA) : Prop where
  mo : Mo m
  run : PK X kws (upA X.K L.B L.W m)
theorem pk_imp {kws : List Keyword} {t t' : TA} (h : PK X kws t) (i : ∀ σ H Q, t' σ H Q → t σ H Q) : PK X kws t' := ⟨fun pos pins s σ H Q I q => h.run pos pins s σ H Q I (i _ _ _ q)⟩
theorem d_knil : DPK X L [] dNil := ⟨mo_nil, pk_imp pk_nil fun σ H Q ⟨G, O, ρ, g, rs, q⟩ => q _ _ _ (Step.refl g) .nil⟩
theorem d_kcons {nm : Option Str} {kpos : Pos} {kws : List Keyword} (ha : DPE X L e m) (hr : DPK X L kws mA) : DPK X L (⟨nm, e, kpos⟩ :: kws) (dCons m mA) := by
  refine ⟨mo_cons ha.mo hr.mo, pk_imp (pk_cons ha.run hr.run) fun σ H Q ⟨G, O, ρ, g, rs, q⟩ => ?_⟩
  refine up_of ha.mo g rs q fun x v O1 G1 H1 q1 s1 r1 => ?_
  exact upA_of hr.mo s1.good (rs.step s1) (mo_step hr.mo s1 q1) fun xs vs O2 G2 H2 q2 s2 r2 => q2 _ _ _ (s1.trans s2) (.cons (r1.mono s2.grow) r2)
/-- C(e, .., k = v, ..): gD orders the data -/
abbrev dMkK (C : Addr) (n m : Nat) (k : List D → List D → DSp) (mA mK : DA) : DE := fun ρ O Q E => mA ρ O (fun ds O1 => mK ρ O1 (fun zs O2 => ds.length = n ∧ zs.length = m ∧ k ds zs [] O2 Q E) E) E
end
end EV
set_option Elab.async false
set_option linter.all false
set_option maxRecDepth 100000
set_option maxHeartbeats 4000000
namespace L2
open PySem PySem.Spec PyProof.Rows
end L2
set_option Elab.async false
set_option linter.all false
set_option maxRecDepth 100000
set_option maxHeartbeats 4000000
namespace L2
open PySem PySem.Spec PyProof.Rows PySem.XO
/-- an error class of the text: its name as code, its fields -/
structure Err (prog : Program) (w : World) (K : PySem.W.Frag) (mg : Str → Option Value) (base : Heap) (n : Nat) (C : Addr) (code : Str) (names : List Str) : Prop where
  kp : PySem.W.keepIn K (.ref C) = true
  exC : PySem.W.subIn K (.ref C) (.type "BaseException") = some true
  tyC : PySem.W.typeIn K (.ref C) = some (.type "type")
  run : Mod K mg base → ∀ (us : List Value), us.length = names.length → ∀ (A : Around) (R : Result → Shared → Prop) (s : Shared), (∀ b o, base.get? b = some o → s.heap.get? b = some o) → s.heap.NoLimit → A.depth + n < recursionLimit →
    (∀ h' tk e d mA t, (∀ f, mA f = List.lookup f ((("code" : Str), Value.str code t) :: names.zip us)) → Made s.heap h' e C d mA → R (.ok (.ret (.ref e))) { s with heap := h', toks := tk }) → codeAny (model prog w) A (.call (.ref C) ⟨us, []⟩) R s
def errF (code : Str) (names : List Str) (vs : List V) : List (Str × V) := (("code" : Str), V.str code) :: names.zip vs
theorem relO_zip {f : Str} : ∀ {names : List Str} {vs : List V} {us : List Value}, Vals vs us → RelO (List.lookup f (names.zip vs)) (List.lookup f (names.zip us))
  | [], _, _, _ => trivial
  | n :: ns, _, _, .nil => trivial
  | n :: ns, _, _, .cons r t => by
    simp only [List.zip_cons_cons, List.lookup_cons]
    cases f == n with
    | true => exact r
    | false => exact relO_zip t
theorem relO_err {f code : Str} {names : List Str} {vs : List V} {us : List Value} {t : Tok} (r : Vals vs us) : RelO ((errF code names vs).lookup f) (List.lookup f ((("code" : Str), Value.str code t) :: names.zip us)) := by
  unfold errF
  simp only [List.lookup_cons]
  cases f == ("code" : Str) with
  | true => exact ⟨t, rfl⟩
  | false => exact relO_zip r
end L2
namespace EV
open PySem PySem.Spec PyProof.Rows L2
theorem RpF.zip {K : PySem.W.Frag} {G : Hp} : ∀ {names : List Str} {vs : List V} {ds : List D}, RpL K G vs ds → RpF K G (names.zip vs) (names.zip ds)
  | [], _, _, _ => .nil
  | _ :: _, _, _, .nil => .nil
  | _ :: _, _, _, .cons r t => .cons r (RpF.zip t)
/-- the attributes of an error -/
def errD (code : Str) (names : List Str) (ds : List D) : List (Str × D) := (("code" : Str), D.str code) :: names.zip ds
end EV
set_option Elab.async false
set_option linter.all false
set_option maxRecDepth 100000
set_option maxHeartbeats 4000000
namespace PySem.W
open PySem PySem.Spec PySem.Calls PyProof.Rows
end PySem.W
namespace L2
open PySem PySem.Spec PyProof.Rows
/-- an error held as a value: its object and its dict -/
theorem exd_at {X : Cx} {pins : List (Addr × Obj)} {σ : St} {H : Hp} {s : Shared} {e C dx : Addr} {u : HO} {fs : List (Str × V)} (I : Inv X pins σ H s) (he : H e = some u) (hu : EV.ExO C dx u) (hd : H dx = some (.xd fs)) :
    ∃ (oe : Obj) (od : Obj) (mA : Str → Option Value), PySem.W.InstAt s.heap e oe C (some od) ∧ (∀ n, PySem.W.lookIn n od = some (mA n)) ∧ ∀ f, RelO (fs.lookup f) (mA f) := by
  obtain ⟨oe, vs, rfl, hz, hv⟩ := hu
  have h1 := (I.hok e _ he).1
  have hx : ObjOk X.prog X.w H s.heap dx (.xd fs) := I.hok dx _ hd
  obtain ⟨mA, hns, hr⟩ := hx
  obtain ⟨od, ho, hl⟩ := lookIn_ns hns
  exact ⟨oe, od, mA, ⟨h1, hz.1, by unfold PySem.W.notCls; rw [hv] <;> rfl, by rw [hz.2]; exact ho⟩, hl, hr⟩
section
variable {X : Cx} {C : Addr} {f : Str} {a : Expr} {ta : TE} {pos : Pos}
/-- e.f of an error held as a value -/
def tEf (K : PySem.W.Frag) (f : Str) (ta : TE) : TE := fun σ H Q => ta σ H fun x H1 => ∃ e C dx u fs v, x = .ref e ∧ H1 e = some u ∧ EV.ExO C dx u ∧ H1 dx = some (.xd fs) ∧ XfC K C ∧ PySem.W.findIn K (.ref C) f = some none ∧ fs.lookup f = some v ∧ Q v H1
theorem pe_ef (he : PE X a ta) (hb : attributeBase a f X.env (eval a X.env) = eval a X.env) : PE X (.Attribute a f pos) (tEf X.K f ta) := by
  refine ⟨fun pins s σ H Q I h => ?_⟩
  refine attr_of hb (thn (he.run pins s σ H _ I h) fun u s1 hh => ?_)
  obtain ⟨x, H1, I1, rx, e, C, dx, u0, fs, v, ex, ee, eu, ed, T, hno, l, q⟩ := hh
  subst ex
  obtain rfl : u = Value.ref e := rx
  obtain ⟨oe, od, mA, J, hl, hr⟩ := exd_at I1 ee eu ed
  obtain ⟨u, hu, ru⟩ := RelO.some_of (v := v) (o := mA f) (by rw [← l]; exact hr f)
  exact HandSPX.exc_get I1.kIn J T.ga T.gg T.exC (PySem.W.findObj_own T.hdC hno rfl (by rw [hl, hu])) (handed_of ru) ⟨v, H1, I1.tok _, ru, q⟩
end
end L2
namespace EV
open PySem PySem.Spec PyProof.Rows L2
section
variable {X : Cx} {L : Pl} {B : Bo} {f : Str} {a : Expr} {m : DE} {pos : Pos}
/-- e.f of an error: cs the classes it may be of -/
def efD (cs : List Addr) (f : Str) : D → (D → Prop) → Prop
  | .exc C fs, Q => C ∈ cs ∧ match fs.lookup f with
    | some d => Q d
    | none => False
  | _, _ => False
def dEf (cs : List Addr) (f : Str) (m : DE) : DE := fun ρ O Q E => m ρ O (fun x O1 => efD cs f x fun d => Q d O1) E
theorem d_ef {cs : List Addr} (T : ∀ C ∈ cs, XfC X.K C) (na : ∀ C ∈ cs, PySem.W.findIn X.K (.ref C) f = some none) (he : DPE X L a m) (hb : attributeBase a f X.env (eval a X.env) = eval a X.env) : DPE X L (.Attribute a f pos) (dEf cs f m) := by
  refine ⟨fun ρ O Q Q' E E' q hx x => he.mo ρ _ _ _ _ _ (fun d O1 z => ?_) hx x, pe_imp (pe_ef he.run hb) fun σ H Q ⟨G, O, ρ, g, rs, q⟩ => ?_⟩
  · unfold efD at z ⊢
    split at z
    · refine ⟨z.1, ?_⟩
      obtain ⟨_, z⟩ := z
      split at z
      · exact q _ _ z
      · exact z
    · exact z
  · refine up_of he.mo g rs q fun x v O1 G1 H1 q1 s1 r1 => ?_
    unfold efD at q1
    split at q1
    · obtain ⟨hc, q1⟩ := q1
      split at q1
      · rename_i d ed
        cases r1 with
        | exc h1 hx h2 rf =>
          obtain ⟨v, ev, rv⟩ := rf.look ed
          exact ⟨_, _, _, _, _, v, rfl, s1.good.sub _ _ h1, hx, s1.good.sub _ _ h2, T _ hc, na _ hc, ev, q1 _ _ _ s1 rv⟩
      · exact q1.elim
    · exact q1.elim
end
end EV
set_option Elab.async false
set_option linter.all false
set_option maxRecDepth 100000
set_option maxHeartbeats 4000000
namespace EV
open PySem PySem.Spec PyProof.Rows L2
section
variable {X : Cx} {L : Pl} {B : Bo}
/-- a class of the text, as a value -/
theorem d_cls {x : Str} {C : Addr} {pos : Pos} (hg : Gl X x) (hm : X.mg x = some (.ref C)) (hd : (x == ("__debug__" : Str)) = false) : DPE X L (.Name x pos) (dC (.opq (.ref C))) := d_c (v := .ref C) (pe_glob hg hm rfl hd) fun _ => .opq _
end
end EV
set_option Elab.async false
set_option linter.all false
set_option maxRecDepth 100000
set_option maxHeartbeats 4000000
namespace PySem
namespace XO
open PySem.W PySem.Calls PyProof.Rows PySem.HandSPX L2
/-- the text of an error's __init__ -/
structure IniD where
  cls : Str
  qual : Str
  params : Arguments
  body : List Stmt
  scope : Scope
def iniF (K : Frag) (c : Str) : Addr := He.ma K (He.ga K c) "__init__"
abbrev IniW := Option (Str × Str × Arguments × FuncBody × Scope × Addr × List Str × Addr)
def iniW (K : Frag) (c : Str) : IniW := match K.lookup (iniF K c) with
  | some ⟨_, _, .func fd, _⟩ => some (fd.name, fd.qualname, fd.params, fd.body, fd.scope, fd.globals, fd.closure.map (·.1), fd.builtins)
  | _ => none
def IniD.val (d : IniD) : IniW := some ("__init__", d.qual, d.params, .stmts d.body, d.scope, mainGlobals, ["__class__"], builtinsNs)
def cellB (K : Frag) (D : Addr) (cc : Addr) : Bool := match K.lookup cc with
  | some ⟨_, _, .cell (some (.ref a)), _⟩ => decide (a = D)
  | _ => false
def fileB (prog : Program) (K : Frag) : Value → Bool
  | .ref c => match K.lookup c with
    | some ⟨_, _, .fields vs, _⟩ => (match (vs[2]? : Option Value) with
      | some (Value.str file _) => (prog.main.file : Str) == file
      | _ => false)
    | _ => false
  | _ => false
def isNone : Value → Bool
  | .none => true
  | _ => false
def iniB (prog : Program) (K : Frag) (d : IniD) : Bool := match K.lookup (iniF K d.cls) with
  | some ⟨_, _, .func fd, _⟩ => codeIn K fd.code d.qual && (isNone fd.defaults && (isNone fd.kwdefaults && (fileB prog K fd.code && fd.closure.all fun q => cellB K (He.ga K d.cls) q.2)))
  | _ => false
theorem isNone_eq {v : Value} (h : isNone v = true) : v = .none := by cases v <;> first | rfl | cases h
theorem cellB_ok {K : Frag} {D cc : Addr} (h : cellB K D cc = true) : ∃ cl cld csl, K.lookup cc = some ⟨cl, cld, .cell (some (.ref D)), csl⟩ := by
  unfold cellB at h
  split at h
  · rename_i a b c d e
    exact ⟨_, _, _, by rw [e, of_decide_eq_true h]⟩
  · cases h
theorem fileB_ok {prog : Program} {K : Frag} {v : Value} (h : fileB prog K v = true) : ∃ c, v = .ref c ∧ ∃ ccl cdd vs ccs file tf, K.lookup c = some ⟨ccl, cdd, .fields vs, ccs⟩ ∧ vs[2]? = some (.str file tf) ∧ ((prog.main.file : Str) == file) = true := by
  unfold fileB at h
  split at h
  · rename_i c
    split at h
    · rename_i e
      split at h
      · rename_i e2
        exact ⟨c, rfl, _, _, _, _, _, _, e, e2, h⟩
      · cases h
    · cases h
  · cases h
/-- what can be seen of a scope -/
structure IniS (d : IniD) : Prop where
  self : ∃ ar, (d.params.posonlyargs ++ d.params.args).head? = some ar ∧ ar.arg = ("self" : Str)
  ks : d.scope.names.lookup ("super" : Str) = some .globalImplicit
  kc : d.scope.names.lookup ("__class__" : Str) = some .free
  ka : d.scope.names.lookup ("self" : Str) = some .local
  kd : d.scope.kind = .function
  nc : ∀ x ∈ d.scope.names, x.2 ≠ .cell
  co : d.scope.isCoroutine = false
  ge : d.scope.isGenerator = false
  ia : ∀ L f cda cc, interactive (ksEnv d.qual d.scope L f (.ref cda) cc) = false
theorem ini_of {prog : Program} {K : Frag} {d : IniD} (e : iniW K d.cls = d.val) (b : iniB prog K d = true) (S : IniS d) : ∃ cc cda fd, Ini prog K (He.ga K d.cls) (iniF K d.cls) d.qual d.params d.body d.scope cc cda fd := by
  unfold iniW at e
  unfold iniB at b
  cases q : K.lookup (iniF K d.cls) with
  | none => rw [q] at b; cases b
  | some o =>
    obtain ⟨oc, od, dt, osl⟩ := o
    rw [q] at b e
    cases dt with
    | func fd =>
      obtain ⟨n1, n2, n3, n4, n5, n6, n7, n8, n9, n10, n11, n12, n13, n14, n15⟩ := fd
      have e2 : (some (n1, n2, n3, n4, n5, n6, n7.map (·.1), n15) : IniW) = (some (("__init__" : Str), d.qual, d.params, FuncBody.stmts d.body, d.scope, mainGlobals, [("__class__" : Str)], builtinsNs) : IniW) := e
      simp only [Option.some.injEq, Prod.mk.injEq] at e2
      obtain ⟨h1, h2, h3, h4, h5, h6, h7, h8⟩ := e2
      subst h1 h2 h3 h4 h5 h6 h8
      have c3 : (codeIn K n13 d.qual && (isNone n8 && (isNone n9 && (fileB prog K n13 && n7.all fun q => cellB K (He.ga K d.cls) q.2)))) = true := b
      obtain ⟨k1, k2⟩ := He.ba c3
      obtain ⟨k3, k4⟩ := He.ba k2
      obtain ⟨k5, k6⟩ := He.ba k4
      obtain ⟨k7, k8⟩ := He.ba k6
      obtain rfl := isNone_eq k3
      obtain rfl := isNone_eq k5
      obtain ⟨cda, rfl, hfile⟩ := fileB_ok k7
      match n7, h7, k8 with
      | [(x, cc)], h7, k8 =>
        have ex : x = ("__class__" : Str) := by simpa using h7
        subst ex
        have hc : cellB K (He.ga K d.cls) cc = true := by simpa using k8
        exact ⟨cc, cda, _, ⟨⟨oc, od, n10, n11, n12, n14, osl, rfl, q⟩, k1, cellB_ok hc, hfile, S.self, S.ks, S.kc, S.ka, S.kd, S.nc, S.co, S.ge, fun L => S.ia L _ _ _⟩⟩
      | [], h7, _ => simp at h7
      | _ :: _ :: _, h7, _ => simp at h7
    | _ => cases b
end XO
end PySem
set_option Elab.async false
set_option linter.all false
set_option maxRecDepth 100000
set_option maxHeartbeats 4000000
namespace PySem
namespace XO
open PySem.W PySem.Calls PyProof.Rows PySem.HandSPX L2
structure SaysI (fa : List He.Fa) (fn : List He.DefD) (ts : List He.Tab) (ins : List IniD) (ex : Frag → Bool) (w : World) (K : Frag) : Prop where
  t : He.SaysT fa fn ts w K
  more : ex K = true
  ini : ∀ d ∈ ins, iniW K d.cls = d.val
abbrev AlI : Type := (He.AlT × Bool) × List IniW
def obsI (fa : List He.Fa) (fn : List He.DefD) (ts : List He.Tab) (ins : List IniD) (ex : Frag → Bool) (K : Frag) : AlI := ((He.obsT fa fn ts K, ex K), ins.map fun d => iniW K d.cls)
def valI (fn : List He.DefD) (ts : List He.Tab) (ins : List IniD) (w : World) : AlI := ((He.valT fn ts w, true), ins.map IniD.val)
theorem map_ext_mem {α β : Type} {f g : α → β} : ∀ {l : List α}, l.map f = l.map g → ∀ x ∈ l, f x = g x
  | [], _, x, h => by simp at h
  | a :: l, e, x, h => by
    simp only [List.map_cons, List.cons.injEq] at e
    rcases List.mem_cons.mp h with q | q
    · rw [q]; exact e.1
    · exact map_ext_mem e.2 x q
theorem saysI_of {fa : List He.Fa} {fn : List He.DefD} {ts : List He.Tab} {ins : List IniD} {ex : Frag → Bool} {w : World} {K : Frag} (e : obsI fa fn ts ins ex K = valI fn ts ins w) : SaysI fa fn ts ins ex w K := by
  have e1 : (He.obsT fa fn ts K, ex K) = (He.valT fn ts w, true) := congrArg (fun z : AlI => z.1) e
  have e2 : ins.map (fun d => iniW K d.cls) = ins.map IniD.val := congrArg (fun z : AlI => z.2) e
  exact ⟨congrArg (fun z : He.AlT × Bool => z.1) e1, congrArg (fun z : He.AlT × Bool => z.2) e1, fun d h => map_ext_mem e2 d h⟩
def eqV (a b : Option (Option Value)) : Bool := decide (a = b)
/-- a class over the built-in error B -/
def exB (B newId : String) (bmB : List Value) (K : Frag) (C : Addr) : Bool := excInitIn K C bmB newId && ((clsIn K C).any (fun cd => excTail bmB cd.mro && (!cd.mro.isEmpty && cd.hasDict)) && (eqV (findIn K (.ref C) "__setattr__") (some (some (.builtin "object.__setattr__"))) && (decide (subIn K (.ref C) (.type B) = some true) && eqV (nsIn K cStatics "thirdparty.any") (some none))))
theorem exB_ok {B newId i : String} {bmB : List Value} {K : Frag} {C : Addr} (kf : KxsFacts B i) (fb : ExcBaseFacts B newId i bmB) (st : StoreFacts B bmB "object.__setattr__" "object") (h : exB B newId bmB K C = true) : ExC K C B newId i bmB := by
  unfold exB at h
  simp only [Bool.and_eq_true] at h
  obtain ⟨h1, h2, h3, h4, h5⟩ := h
  refine ⟨kf, fb, st, h1, ?_, of_decide_eq_true h3, of_decide_eq_true h4, of_decide_eq_true h5⟩
  cases e : clsIn K C with
  | none => rw [e] at h2; cases h2
  | some cd =>
    rw [e] at h2
    have h2 : (excTail bmB cd.mro && (!cd.mro.isEmpty && cd.hasDict)) = true := h2
    simp only [Bool.and_eq_true, Bool.not_eq_true'] at h2
    exact ⟨cd, rfl, h2.1, h2.2.1, h2.2.2⟩
/-- what every error class has -/
def anB (K : Frag) (C f : Addr) : Bool := keepIn K (.ref C) && (decide (subIn K (.ref C) (.type "BaseException") = some true) && (decide (typeIn K (.ref C) = some (.type "type")) && (eqV (findIn K (.ref C) "__init__") (some (some (.ref f))) && (decide (typeIn K (.ref f) = some (.type "function")) && (fnIn K f && (decide (mroIn K C (.ref C) = some true)
  && (eqV (findIn K (.ref C) "__getattribute__") (some (some (.builtin "BaseException.__getattribute__"))) && (eqV (findIn K (.ref C) "__getattr__") (some none) && (hasDictIn K C && (eqV (findIn K (.ref C) "__class__") (some (some (.builtin "object.__class__"))) && (eqV (specialIn K (.builtin "object.__class__") "__get__") (some (some (.builtin "getset_descriptor.__get__"))) && (decide (takesIn K (.builtin "object.__class__") = some true) && decide (mroIn K C (.type "object") = some true)))))))))))))
structure AnC (K : Frag) (C f : Addr) : Prop where
  kp : keepIn K (.ref C) = true
  exC : subIn K (.ref C) (.type "BaseException") = some true
  tyC : typeIn K (.ref C) = some (.type "type")
  iC : findIn K (.ref C) "__init__" = some (some (.ref f))
  tf : typeIn K (.ref f) = some (.type "function")
  fn : fnIn K f = true
  mC : mroIn K C (.ref C) = some true
  xf : XfC K C
  xc : ExcC K C
theorem anB_ok {K : Frag} {C f : Addr} (h : anB K C f = true) : AnC K C f := by
  unfold anB at h
  simp only [Bool.and_eq_true] at h
  obtain ⟨h1, h2, h3, h4, h5, h6, h7, h8, h9, h10, h11, h12, h13, h14⟩ := h
  have e2 := of_decide_eq_true h2
  have e8 := of_decide_eq_true h8
  have e9 := of_decide_eq_true h9
  exact ⟨h1, e2, of_decide_eq_true h3, of_decide_eq_true h4, of_decide_eq_true h5, h6, of_decide_eq_true h7, ⟨e8, e9, e2, h10⟩, ⟨e8, e9, e2, h10, of_decide_eq_true h11, of_decide_eq_true h12, of_decide_eq_true h13, of_decide_eq_true h14⟩⟩
end XO
end PySem
set_option Elab.async false
set_option linter.all false
set_option maxRecDepth 100000
set_option maxHeartbeats 4000000
namespace PySem
namespace XO
open PySem.W PySem.Calls PyProof.Rows PySem.HandSPX L2
section
variable {prog : Program} {w : World} {K : Frag} {mg : Str → Option Value} {base : Heap}
variable {C D f f2 cc cda : Addr} {qual : Str} {ps : Arguments} {scope : Scope} {fd : FuncData} {B newId i : String} {bmB : List Value}
/-- an error class, out of its __init__ -/
theorem err_of (EC : ExC K C B newId i bmB) (AC : AnC K C f) {code : Str} {names : List Str} {n : Nat} (hz : names.length ≤ 1000)
    (IO : Mod K mg base → ∀ us : List Value, us.length = names.length → InitOk prog w K mg base n C f us (fun mA => ∃ t, ∀ y, mA y = List.lookup y ((("code" : Str), Value.str code t) :: names.zip us))) : Err prog w K mg base (n + 1) C code names :=
  ⟨AC.kp, AC.exC, AC.tyC, fun Md us hl A R s bk hlim hroom hq => made EC Md AC.iC AC.tf (by rw [hl, sizeLine_eq]; omega) (IO Md us hl) bk hlim hroom fun h' tk e d mA ⟨t, hm⟩ M => hq h' tk e d mA t hm M⟩
theorem look1 {a : Str} {u c : Value} (ha : a ≠ "code") (y : Str) : (if y = a then some u else if y = "code" then some c else none) = List.lookup y [(("code" : Str), c), (a, u)] := by
  simp only [List.lookup_cons, List.lookup_nil]
  by_cases h1 : y = a
  · subst h1
    have : (y == ("code" : Str)) = false := by simpa using ha
    simp [this]
  · by_cases h2 : y = "code"
    · subst h2; simp [h1]
    · have e1 : (y == ("code" : Str)) = false := by simpa using h2
      have e2 : (y == a) = false := by simpa using h1
      simp [h1, h2, e1, e2]
end
end XO
end PySem
set_option Elab.async false
set_option linter.all false
set_option maxRecDepth 100000
set_option maxHeartbeats 4000000
namespace PySem
namespace XO
open PySem.W PySem.Calls PyProof.Rows PySem.HandSPX L2
/-- a built-in error beneath the text's classes -/
structure Lib (B newId i : String) (bmB : List Value) : Prop where
  kf : KxsFacts B i
  fb : ExcBaseFacts B newId i bmB
  st : StoreFacts B bmB "object.__setattr__" "object"
abbrev bmV : List Value := [.type "ValueError", .type "Exception", .type "BaseException", .type "object"]
abbrev bmL : List Value := [.type "LookupError", .type "Exception", .type "BaseException", .type "object"]
abbrev bmX : List Value := [.type "IndexError", .type "LookupError", .type "Exception", .type "BaseException", .type "object"]
theorem lib_V : Lib "ValueError" "ValueError.__new__" "ValueError.__init__" bmV := ⟨kxs_ValueError, F.excBase_ValueError, F.store_ValueError⟩
theorem lib_X : Lib "IndexError" "IndexError.__new__" "IndexError.__init__" bmX := ⟨kxs_IndexError, F.excBase_IndexError, F.store_IndexError⟩
/-- a class, seen: fields that it does not have itself -/
def clsB (prog : Program) (B newId : String) (bmB : List Value) (K : Frag) (d : IniD) (fs : List Str) : Bool :=
  exB B newId bmB K (He.ga K d.cls) && (anB K (He.ga K d.cls) (iniF K d.cls) && (iniB prog K d && fs.all fun f => eqV (findIn K (.ref (He.ga K d.cls)) f) (some none)))
/-- a class c over D over a built-in -/
def overB (i : String) (K : Frag) (c D : Str) : Bool :=
  eqV (ks_superIn K (He.ga K c) (He.ga K c) "__init__") (some (some (.ref (iniF K D)))) && (eqV (ks_superIn K (He.ga K c) (He.ga K D) "__init__") (some (some (.builtin i))) && decide (mroIn K (He.ga K c) (.ref (He.ga K D)) = some true))
def over0B (i : String) (K : Frag) (c : Str) : Bool := eqV (ks_superIn K (He.ga K c) (He.ga K c) "__init__") (some (some (.builtin i)))
theorem eqV_ok {a b : Option (Option Value)} (h : eqV a b = true) : a = b := of_decide_eq_true h
structure ClsO (prog : Program) (B newId i : String) (bmB : List Value) (K : Frag) (d : IniD) (fs : List Str) : Prop where
  ec : ExC K (He.ga K d.cls) B newId i bmB
  an : AnC K (He.ga K d.cls) (iniF K d.cls)
  ini : ∃ cc cda fd, Ini prog K (He.ga K d.cls) (iniF K d.cls) d.qual d.params d.body d.scope cc cda fd
  na : ∀ f ∈ fs, findIn K (.ref (He.ga K d.cls)) f = some none
theorem clsO_of {prog : Program} {B newId i : String} {bmB : List Value} {K : Frag} {d : IniD} {fs : List Str} (lb : Lib B newId i bmB) (S : IniS d) (e : iniW K d.cls = d.val) (h : clsB prog B newId bmB K d fs = true) : ClsO prog B newId i bmB K d fs := by
  unfold clsB at h
  simp only [Bool.and_eq_true, List.all_eq_true] at h
  obtain ⟨h1, h2, h3, h4⟩ := h
  exact ⟨exB_ok lb.kf lb.fb lb.st h1, anB_ok h2, ini_of e h3 S, fun f hf => eqV_ok (h4 f hf)⟩
section
variable {prog : Program} {w : World} {K : Frag} {mg : Str → Option Value} {base : Heap} {B newId i : String} {bmB : List Value}
abbrev HevT (d : IniD) (p0 p1 p2 p3 : Pos) (e : Expr) : Prop := ∃ pl : Addr → Addr → Addr → Addr → Sem Bool, ∀ L f cda cc, eval (supC p0 p1 p2 p3 e) (ksEnv d.qual d.scope L f (.ref cda) cc) = (do
      let ov ← attributeBase (.Call (.Name "super" p0) [] [] p1) "__init__" (ksEnv d.qual d.scope L f (.ref cda) cc) (eval (.Call (.Name "super" p0) [] [] p1) (ksEnv d.qual d.scope L f (.ref cda) cc))
      standAt p2.atName
      let (f2, first) ← holding [ov] (getMethod ov "__init__" (pl L f cda cc))
      callWith p3 f2 first (backTo p3 (starEach [e] (ksEnv d.qual d.scope L f (.ref cda) cc))) [])
/-- the text of a base class: def __init__(self, code): super().__init__(code); self.code = code -/
structure BaseT (d : IniD) : Prop where
  body : ∃ p0 p1 p2 p3 p4 q0 q1 q2 r0 r1, d.body = [.Expr (supC p0 p1 p2 p3 (.Name "code" r0)) p4, setS "code" q0 q1 q2 (.Name "code" r1)] ∧ HevT d p0 p1 p2 p3 (.Name "code" r0)
  kc : d.scope.names.lookup ("code" : Str) = some .local
  bd : ∀ doc pm an cdv ct cc x v, bindArgs (ksFn "__init__" d.qual d.params d.body d.scope .none .none doc pm an cdv ct cc) ⟨[x, v], []⟩ = pure [(("self" : Str), x), (("code" : Str), v)]
structure Sub1T (d : IniD) (N a : Str) : Prop where
  body : ∃ p0 p1 p2 p3 p4 q0 q1 q2 j0 r0 r1, d.body = [.Expr (supC p0 p1 p2 p3 (.Constant (.str N) j0 r0)) p4, setS a q0 q1 q2 (.Name a r1)] ∧ HevT d p0 p1 p2 p3 (.Constant (.str N) j0 r0)
  ka : d.scope.names.lookup a = some .local
  nm : (a == ("__debug__" : Str)) = false ∧ a ≠ "self" ∧ a ≠ "code"
  bd : ∀ doc pm an cdv ct cc x v, bindArgs (ksFn "__init__" d.qual d.params d.body d.scope .none .none doc pm an cdv ct cc) ⟨[x, v], []⟩ = pure [(("self" : Str), x), (a, v)]
structure TopO (prog : Program) (mg : Str → Option Value) : Prop where
  sup : mg "super" = none
  top : (prog.main.scope.names.lookup ("super" : Str)).isSome = false
variable {d dD : IniD} {fs gs : List Str} {newB iB : String} {bB : List Value}
theorem overB_ok {c D : Str} (h : overB i K c D = true) : ks_superIn K (He.ga K c) (He.ga K c) "__init__" = some (some (.ref (iniF K D))) ∧ ks_superIn K (He.ga K c) (He.ga K D) "__init__" = some (some (.builtin i)) ∧ mroIn K (He.ga K c) (.ref (He.ga K D)) = some true := by
  unfold overB at h
  simp only [Bool.and_eq_true] at h
  exact ⟨eqV_ok h.1, eqV_ok h.2.1, of_decide_eq_true h.2.2⟩
/-- the base class's __init__, for the class c -/
theorem base_in (T : TopO prog mg) (O : ClsO prog B newId i bmB K d fs) (OD : ClsO prog B newId i bmB K dD gs) (TD : BaseT dD) (hc : ("code" : Str) ∈ fs) (ov : overB i K d.cls dD.cls = true) (Md : Mod K mg base) (v : Value) : InitOk prog w K mg base 0 (He.ga K d.cls) (iniF K dD.cls) [v] (fun mA => mA = fun (y : Str) => if y = "code" then some v else none) := by
  obtain ⟨h1, h2, h3⟩ := overB_ok ov
  obtain ⟨cc, cda, fd, I⟩ := OD.ini
  obtain ⟨p0, p1, p2, p3, p4, q0, q1, q2, r0, r1, eb, pl, hev⟩ := TD.body
  have hfd := I.fn
  rw [eb] at I
  obtain ⟨cdD, hcd, _⟩ := OD.ec.cd
  refine base_ok O.ec (O.na _ hc) I Md T.sup T.top h2 hcd h3 TD.kc (fun L => hev L _ _ _) (fun s x v => ?_) v
  obtain ⟨oc, od, doc, pm, an, ct, osl, rfl, _⟩ := hfd
  exact .of_eq (TD.bd _ _ _ _ _ _ _ _)
theorem err_sub1 {N a : Str} (T : TopO prog mg) (O : ClsO prog B newId i bmB K d fs) (OD : ClsO prog B newId i bmB K dD gs) (TD : BaseT dD) (TS : Sub1T d N a) (hc : ("code" : Str) ∈ fs) (ha : a ∈ fs) (ov : overB i K d.cls dD.cls = true) : Err prog w K mg base 2 (He.ga K d.cls) N [a] := by
  obtain ⟨h1, h2, h3⟩ := overB_ok ov
  obtain ⟨cc, cda, fd, I⟩ := O.ini
  obtain ⟨p0, p1, p2, p3, p4, q0, q1, q2, j0, r0, r1, eb, pl, hev⟩ := TS.body
  have hfd := I.fn
  rw [eb] at I
  refine err_of O.ec O.an (by show 1 ≤ 1000; decide) fun Md us hl => ?_
  match us, hl with
  | [u], _ =>
    have k := sub1_ok (n := 0) (w := w) O.ec (O.na _ ha) I Md T.sup T.top h1 OD.an.tf OD.an.fn O.an.mC TS.ka TS.nm.1 TS.nm.2.1 (fun L => hev L _ _ _) (fun s x v => ?_) (fun v => base_in (w := w) T O OD TD hc ov Md v) u
    · exact fun A R s x t0 a b c e f g => k A R s x t0 a b c e f fun h' tk dx mA ⟨t, ht⟩ => g h' tk dx mA ⟨t, fun y => by rw [ht]; exact look1 TS.nm.2.2 y⟩
    · obtain ⟨oc, od, doc, pm, an, ct, osl, rfl, _⟩ := hfd
      exact .of_eq (TS.bd _ _ _ _ _ _ _ _)
end
end XO
end PySem
set_option Elab.async false
set_option linter.all false
set_option maxRecDepth 100000
set_option maxHeartbeats 4000000
namespace PySem
namespace XO
open PySem.W PySem.Calls PyProof.Rows PySem.HandSPX L2
structure SaysJ (fa : List He.Fa) (fn : List He.DefD) (ts : List He.Tab) (ins : List IniD) (tf : List He.Defn) (ex : Frag → Bool) (w : World) (h : Heap) (K : Frag) : Prop where
  i : SaysI fa fn ts ins ex w K
  hd : ∀ p ∈ tf, codeHdIn K (He.cT K p).1 (He.cT K p).2 = true
  out : ∀ p ∈ tf, K.lookup (He.cT K p).2 = none
  empty : ∀ p ∈ tf, h.get? (He.cT K p).2 = some { cls := .none, data := .fields #[] }
end XO
end PySem
namespace L2
open PySem PySem.Spec PyProof.Rows
section
variable {P : Program} {w : World} {K : PySem.W.Frag} {mg : Str → Option Value} {base : Heap}
/-- a def that raises nothing, its code object known -/
theorem Fun.okC {p : He.Defn} {x qual : Str} {st : Stmt} {fd : FuncData} {N ps : List Str} {k : Nat} {sp : Sp} (F : Fun K x qual st (He.fAd K p) fd) (S : FnScope N ps (defScope st)) (len : ∀ vs H Q E, sp vs H Q E → vs.length = ps.length)
    (hbody : ∀ (A : Around) (outer : List Env) (s : Shared) (H : Hp) (vs : List V) (Q : VK) (E : XK), Room k (A.deeper (envOfC qual (defScope st) s.heap.objs.size (He.fAd K p) (.ref (He.codeOf K p)))) → sp vs H Q E →
      ∃ t, PSs (cxOf CX0 P w K mg base N qual (defScope st) (He.fAd K p) (.ref (He.codeOf K p)) A outer s H E).nox (defBody st) t ∧ t { nx := fun _ H' => Q .non H', rt := Q } (start N vs) H) : FnOk P w K mg base CX0 (k + 1) (He.fAd K p) fd ps sp := by
  obtain ⟨oc, od, kV, doc, pm, an, cdv, ct, osl, rfl, lk, hcd⟩ := F.ex
  obtain ⟨c, rfl⟩ := He.codeIn_ref hcd
  have e : He.codeOf K p = c := He.codeOf_eq lk rfl
  refine fn_of lk hcd S len fun A outer s H vs Q E hr hsp => ?_
  rw [← e] at hr ⊢
  obtain ⟨t, h, q⟩ := hbody A outer s H vs Q E hr hsp
  exact ⟨t, h.nox, q⟩
end
end L2
set_option Elab.async false
set_option linter.all false
set_option maxRecDepth 100000
set_option maxHeartbeats 4000000
namespace PySem
namespace XO
open PySem.W PySem.Calls PyProof.Rows PySem.HandSPX L2
/-- addresses level by level, no search for what was met -/
def levN (g : Addr → Option Obj) : Nat → List Addr → List Addr
  | 0, f => f
  | n + 1, f => f ++ levN g n (f.flatMap fun a => match g a with
    | some o => (He.refsD o).filter fun b => !(b == mainGlobals || b == cStatics)
    | none => [])
def asN (g : Addr → Option Obj) (n : Nat) : List Addr := levN g n [mainGlobals, cStatics]
abbrev AlN : Type := AlI × Bool
def obsN (n : Nat) (fa : List He.Fa) (fn : List He.DefD) (ts : List He.Tab) (ins : List IniD) (tf : List He.Defn) (ex : Frag → Bool) (g : Addr → Option Obj) : AlN := (obsI fa fn ts ins ex (He.frT g (asN g n)), He.tabsB g tf (He.frT g (asN g n)))
theorem saysN_of {n : Nat} {fa : List He.Fa} {fn : List He.DefD} {ts : List He.Tab} {ins : List IniD} {tf : List He.Defn} {ex : Frag → Bool} {w : World} {h : Heap} (e : obsN n fa fn ts ins tf ex h.get? = (valI fn ts ins w, true)) : SaysJ fa fn ts ins tf ex w h (He.frT h.get? (asN h.get? n)) := by
  have e1 : obsI fa fn ts ins ex (He.frT h.get? (asN h.get? n)) = valI fn ts ins w := congrArg (fun z : AlN => z.1) e
  have h2 : He.tabsB h.get? tf (He.frT h.get? (asN h.get? n)) = true := congrArg (fun z : AlN => z.2) e
  have key : ∀ p ∈ tf, codeHdIn (He.frT h.get? (asN h.get? n)) (He.cT (He.frT h.get? (asN h.get? n)) p).1 (He.cT (He.frT h.get? (asN h.get? n)) p).2 = true ∧ ∃ o, h.get? (He.cT (He.frT h.get? (asN h.get? n)) p).2 = some o ∧ He.emptyTab o = true := fun p hp => by
    have h3 := List.all_eq_true.mp h2 p hp
    rw [Bool.and_eq_true] at h3
    obtain ⟨h3, h4⟩ := h3
    refine ⟨h3, ?_⟩
    cases q : h.get? (He.cT (He.frT h.get? (asN h.get? n)) p).2 with
    | none =>
      rw [q] at h4
      cases h4
    | some o =>
      rw [q] at h4
      exact ⟨o, rfl, h4⟩
  exact ⟨saysI_of e1, fun p hp => (key p hp).1, fun p hp => by
    obtain ⟨_, o, q, z⟩ := key p hp
    exact He.frT_none q z, fun p hp => by
    obtain ⟨_, o, q, z⟩ := key p hp
    rw [q, He.emptyTab_eq z]⟩
end XO
end PySem
set_option Elab.async false
set_option linter.all false
set_option maxRecDepth 100000
set_option maxHeartbeats 4000000
namespace PySem
namespace XO
open PySem.W PySem.Calls PyProof.Rows PySem.HandSPX L2
structure SaysS (fa : List He.Fa) (fn : List He.DefD) (ts : List He.Tab) (ins : List IniD) (tf : List He.Defn) (ex : Frag → Bool) (sm : List He5.DefA) (w : World) (h : Heap) (K : Frag) : Prop where
  j : SaysJ fa fn ts ins tf ex w h K
  s : (sm.map fun d => He5.fnA K (d.at_ K)) = sm.map He5.DefA.val
abbrev AlS : Type := AlN × List He.FnW
def obsS (n : Nat) (fa : List He.Fa) (fn : List He.DefD) (ts : List He.Tab) (ins : List IniD) (tf : List He.Defn) (ex : Frag → Bool) (sm : List He5.DefA) (g : Addr → Option Obj) : AlS :=
  (obsN n fa fn ts ins tf ex g, sm.map fun d => He5.fnA (He.frT g (asN g n)) (d.at_ (He.frT g (asN g n))))
theorem saysS_of {n : Nat} {fa : List He.Fa} {fn : List He.DefD} {ts : List He.Tab} {ins : List IniD} {tf : List He.Defn} {ex : Frag → Bool} {sm : List He5.DefA} {w : World} {h : Heap} (e : obsS n fa fn ts ins tf ex sm h.get? = ((valI fn ts ins w, true), sm.map He5.DefA.val)) :
    SaysS fa fn ts ins tf ex sm w h (He.frT h.get? (asN h.get? n)) := ⟨saysN_of (congrArg (fun z : AlS => z.1) e), congrArg (fun z : AlS => z.2) e⟩
def hookS (n : Nat) (fa : List He.Fa) (fn : List He.DefD) (ts : List He.Tab) (ins : List IniD) (tf : List He.Defn) (ex : Frag → Bool) (sm : List He5.DefA) : PySem.W.Hook where
  α := AlS
  obs := fun s => obsS n fa fn ts ins tf ex sm s.heap.get?
  val := fun w => ((valI fn ts ins w, true), sm.map He5.DefA.val)
  says := fun w h => ∃ K : Frag, K.In h ∧ SaysS fa fn ts ins tf ex sm w h K
  of := fun _ _ e => ⟨_, He.frT_in, saysS_of e⟩
  keeps := fun _ _ _ ⟨K, hK, c⟩ k => ⟨K, PySem.W.Frag.In.keeps hK k, ⟨⟨c.j.i, c.j.hd, c.j.out, fun p hp => k _ _ (c.j.empty p hp)⟩, c.s⟩⟩
theorem obsS_eq {n : Nat} {fa : List He.Fa} {fn : List He.DefD} {ts : List He.Tab} {ins : List IniD} {tf : List He.Defn} {ex : Frag → Bool} {sm : List He5.DefA} {g : Addr → Option Obj} {s : Shared} (h : ∀ a, g a = s.heap.get? a) : obsS n fa fn ts ins tf ex sm g = (hookS n fa fn ts ins tf ex sm).obs s := by
  have e : g = s.heap.get? := funext h
  rw [e] <;> rfl
theorem SaysS.def_ {fa : List He.Fa} {fn : List He.DefD} {ts : List He.Tab} {ins : List IniD} {tf : List He.Defn} {ex : Frag → Bool} {sm : List He5.DefA} {w : World} {h : Heap} {K : Frag} (c : SaysS fa fn ts ins tf ex sm w h K) (i : Nat) {d : He5.DefA} (hi : sm[i]? = some d) (ok : d.ok K = true) :
    ∃ fd, L2.FunD K d.name d.qual d.params d.body d.scope (d.dvs K) (d.kws K) (d.at_ K) fd := by
  have e2 : (sm.map fun d => He5.fnA K (d.at_ K))[i]? = (sm.map He5.DefA.val)[i]? := by rw [c.s]
  rw [List.getElem?_map, List.getElem?_map, hi] at e2
  exact He5.DefA.funD (Option.some.inj e2) ok
/-- a static method of a class -/
def smB (K : Frag) (C : Addr) (m : Str) : Bool := He5.wrapB K C "staticmethod" "staticmethod.__get__" m && (readsIn K C (.type "type") && decide (specialIn K (.ref C) "__getattribute__" = some (some (.builtin "type.__getattribute__"))))
structure SMet (K : Frag) (C : Addr) (m : Str) (g : Addr) : Prop where
  r : ClX.CRead K C (.type "type")
  at_ : ∃ p rest, findCls K (.ref C) (.type "type") m = some (.get (.builtin "staticmethod.__get__") (.ref p) .none (.ref C)) ∧ recIn K p "staticmethod" = some (.ref g :: rest)
  kp : keepIn K (.ref g) = true
theorem smet_of {K : Frag} {C : Addr} {m : Str} (h : smB K C m = true) (kp : keepIn K (.ref (He5.wf K C "staticmethod" m)) = true) : SMet K C m (He5.wf K C "staticmethod" m) := by
  unfold smB at h
  simp only [Bool.and_eq_true, decide_eq_true_eq] at h
  obtain ⟨a, b, c⟩ := h
  obtain ⟨a1, rest, a2⟩ := He5.wrapB_ok a
  exact ⟨⟨b, c⟩, ⟨_, rest, a1, a2⟩, kp⟩
end XO
end PySem
set_option Elab.async false
set_option linter.all false
set_option maxRecDepth 100000
set_option maxHeartbeats 4000000
namespace LW
open PySem PySem.Spec PyProof.Rows L2 EV
def topS (i : Nat) : Stmt := PySem.Challenge.pw_oncethrough_k33_wrong_reader_pages.main.body.getD i (.Pass ⟨0, 0, 0, 0⟩)
/-- a def of the text, as a caller takes it -/
structure Gf (K : PySem.W.Frag) (mg : Str → Option Value) (x : Str) (f : Addr) (fd : FuncData) (ps : List Str) : Prop where
  m : mg x = some (.ref f)
  k : PySem.W.keepIn K (.ref f) = true
  b : Binds K fd ps []
abbrev s_box : Stmt := topS 32
abbrev N_box : List Str := ["_law_script", "_law_mixed", "_law_cell"]
theorem sc_box : FnScope N_box ["_law_script"] (defScope s_box) := ⟨rfl, rfl, rfl, by decide +kernel, rfl, by decide +kernel, by decide +kernel⟩
abbrev s_pull : Stmt := topS 33
abbrev N_pull : List Str := ["_law_box_here", "_law_many", "_law_cell", "_law_digit", "_law_twice"]
theorem sc_pull : FnScope N_pull ["_law_box_here", "_law_many"] (defScope s_pull) := ⟨rfl, rfl, rfl, by decide +kernel, rfl, by decide +kernel, by decide +kernel⟩
section
variable {P : Program} {w : World} {K : PySem.W.Frag} {mg : Str → Option Value} {base : Heap}
def spBox (K : PySem.W.Frag) : Sp := fun vs H Q _ => ∃ (a : Addr) (ns : List Int), vs = [.ref a] ∧ SqL K H a (ns.map V.int) ∧
  ∀ (b l : Addr) (m : Int) (ms : List Int) (H' : Hp), Same H H' → H b = none → H' b = some (.lst [.ref l, .int 0, .int 0, .int m, .int 0]) → H' l = some (.lst (ms.map V.int)) → l ≠ b → 0 ≤ m → m < 2147483587 → Q (.ref b) H'
theorem same_upd {H : Hp} {p : Addr} {o : HO} (h : H p = none) : Same H (upd H p o) := fun b x e => by
  rw [upd_ne (ne_of_none e h)]
  exact e
theorem cut_ints (ns : List Int) (lo hi : Option Int) : ∃ ms : List Int, cutV (ns.map V.int) lo hi = ms.map V.int := by
  unfold cutV
  exact ⟨_, by rw [← List.map_drop, ← List.map_take]⟩
theorem ok_box {f : Addr} {fd : FuncData} (F : Fun K "_law_box" "_law_box" s_box f fd) (mi : mg "int" = none) (ml : mg "list" = none) : FnOk P w K mg base CX0 1 f fd ["_law_script"] (spBox K) := by
  refine F.ok sc_box (fun vs H Q E h => ?_) (fun cdv A outer s H vs Q E hr h => ?_)
  · obtain ⟨a, ns, rfl, _⟩ := h
    rfl
  · obtain ⟨a, ns, rfl, hS, q⟩ := h
    refine ⟨_, pss_cons (ps_set (i := 1) sc_box.nd rfl (.inl rfl) pe_int)
      (pss_cons (ps_for PassesOwn.never rfl (pi_list (pe_slice sl_list (pv 0) po_none (po_some pe_int))) (pg_name (i := 2) sc_box.nd rfl (.inl rfl))
        (pss_one (ps_set (i := 1) sc_box.nd rfl (.inl rfl) (pe_op op_mod (pe_callTy call_int1 rfl mi boot_int (pa_cons (pe_op op_add (pe_op op_add (pe_op op_mul (pv 1) pe_int) (pe_op op_mul (pe_op op_mod (pe_callTy call_int1 rfl mi boot_int (pa_cons (pv 2) pa_nil)) pe_int) pe_int)) pe_int) pa_nil)) pe_int))))
      (pss_one (ps_ret (pe_lst (pa_cons (pe_callTy call_list_of rfl ml boot_list (pa_cons (pe_slice sl_list (pv 0) po_none (po_some pe_int)) pa_nil)) (pa_cons pe_int (pa_cons pe_int (pa_cons (pv 1) (pa_cons pe_int pa_nil))))))))), ?_⟩
    obtain ⟨ms, ems⟩ := cut_ints ns none (some 63)
    refine ⟨.ref a, rfl, 63, rfl, a, ns.map V.int, rfl, hS, fun c nc => ?_⟩
    rw [ems]
    have s1 : Same H (upd H c (.lst (ms.map V.int))) := same_upd nc
    refine ⟨c, rfl, ⟨_, .inl (.inl upd_same)⟩, for_list (K := K) (a := c) (xs := ms.map V.int) (fun i σ H' => ∃ (y2 : Option V) (m : Int), σ = [some (.ref a), some (.int m), y2] ∧ 0 ≤ m ∧ m < 2147483587 ∧ H' = upd H c (.lst (ms.map V.int)))
      ⟨none, 12022, rfl, by decide, by decide, rfl⟩ (fun i σ H' _ ⟨_, _, _, _, _, e⟩ => by rw [e]; exact .inl (.inl upd_same)) ?_ ?_⟩
    · rintro i x σ H' hx ⟨y2, m, rfl, m0, m1, rfl⟩
      obtain ⟨z, rfl⟩ : ∃ z, x = V.int z := by
        rw [List.getElem?_map] at hx
        cases e : ms[i]? with
        | none => rw [e] at hx; cases hx
        | some z => rw [e] at hx; exact ⟨z, (Option.some.inj hx).symm⟩
      refine ⟨.int m, rfl, _, _, rfl, rfl, .inr ⟨by decide, by decide⟩, .int z, rfl, .inl ⟨z, rfl, _, _, rfl, rfl, (by decide : (0 : Int) < 1000003), _, _, rfl, rfl, .inr ⟨by decide, by decide⟩, _, _, rfl, rfl, _, _, rfl, rfl, .inl ⟨_, rfl, _, _, rfl, rfl, (by decide : (0 : Int) < 2147483579), ?_⟩⟩⟩
      refine ⟨some (.int z), _, rfl, Int.emod_nonneg _ (by decide), Int.lt_trans (Int.emod_lt_of_pos _ (by decide)) (by decide), rfl⟩
    · rintro σ H' ⟨y2, m, rfl, m0, m1, rfl⟩
      refine ⟨.ref a, rfl, 63, rfl, a, ns.map V.int, rfl, s1.seq hS, fun d nd => ?_⟩
      rw [ems]
      refine ⟨d, _, rfl, .inl (.inl (.inl upd_same)), fun l nl => ?_⟩
      have s2 := same_upd (o := .lst (ms.map V.int)) nd
      have s3 := same_upd (o := .lst (ms.map V.int)) nl
      refine ⟨.int m, rfl, (by show 5 ≤ sizeLine; decide), fun b nb => ?_⟩
      have s4 := same_upd (o := .lst [.ref l, .int 0, .int 0, .int m, .int 0]) nb
      have nlb : l ≠ b := fun e => by rw [← e, upd_same] at nb; cases nb
      have sA := ((s1.trans s2).trans s3)
      exact q b l m ms _ (sA.trans s4) (sA.free nb) upd_same (by rw [upd_ne nlb, upd_same]) nlb m0 m1
end
end LW
set_option Elab.async false
set_option linter.all false
set_option maxRecDepth 100000
set_option maxHeartbeats 4000000
namespace LW
open PySem PySem.Spec PyProof.Rows L2 EV PySem.XO PySem.W
def clsS (i j : Nat) : Stmt := match topS i with
  | .ClassDef _ _ _ body _ _ _ _ _ _ _ => body.getD j (.Pass ⟨0, 0, 0, 0⟩)
  | _ => .Pass ⟨0, 0, 0, 0⟩
abbrev Pr : Program := PySem.Challenge.pw_oncethrough_k33_wrong_reader_pages
abbrev st_OnceError : Stmt := clsS 2 0
def in_OnceError : IniD := ⟨"OnceError", "OnceError.__init__", defArgs st_OnceError, defBody st_OnceError, defScope st_OnceError⟩
theorem is_OnceError : IniS in_OnceError := ⟨⟨_, rfl, rfl⟩, rfl, rfl, rfl, rfl, by decide +kernel, rfl, rfl, fun _ _ _ _ => rfl⟩
theorem tx_OnceError : BaseT in_OnceError := ⟨⟨_, _, _, _, _, _, _, _, _, _, rfl, _, fun _ _ _ _ => rfl⟩, rfl, fun _ _ _ _ _ _ _ _ => rfl⟩
def cb_OnceError (K : Frag) : Bool := clsB Pr "ValueError" "ValueError.__new__" bmV K in_OnceError ["code"]
abbrev st_Missing : Stmt := clsS 3 0
def in_Missing : IniD := ⟨"Missing", "Missing.__init__", defArgs st_Missing, defBody st_Missing, defScope st_Missing⟩
def cb_Missing (K : Frag) : Bool := clsB Pr "LookupError" "LookupError.__new__" bmL K in_Missing ["code"]
abbrev st_NothingLeft : Stmt := clsS 4 0
def in_NothingLeft : IniD := ⟨"NothingLeft", "NothingLeft.__init__", defArgs st_NothingLeft, defBody st_NothingLeft, defScope st_NothingLeft⟩
theorem is_NothingLeft : IniS in_NothingLeft := ⟨⟨_, rfl, rfl⟩, rfl, rfl, rfl, rfl, by decide +kernel, rfl, rfl, fun _ _ _ _ => rfl⟩
def cb_NothingLeft (K : Frag) : Bool := clsB Pr "IndexError" "IndexError.__new__" bmX K in_NothingLeft ["code"] && over0B "IndexError.__init__" K "NothingLeft"
abbrev st_InvalidNumber : Stmt := clsS 5 0
def in_InvalidNumber : IniD := ⟨"InvalidNumber", "InvalidNumber.__init__", defArgs st_InvalidNumber, defBody st_InvalidNumber, defScope st_InvalidNumber⟩
theorem is_InvalidNumber : IniS in_InvalidNumber := ⟨⟨_, rfl, rfl⟩, rfl, rfl, rfl, rfl, by decide +kernel, rfl, rfl, fun _ _ _ _ => rfl⟩
theorem tx_InvalidNumber : Sub1T in_InvalidNumber "InvalidNumber" "given" := ⟨⟨_, _, _, _, _, _, _, _, _, _, _, rfl, _, fun _ _ _ _ => rfl⟩, rfl, ⟨by decide, by decide, by decide⟩, fun _ _ _ _ _ _ _ _ => rfl⟩
def cb_InvalidNumber (K : Frag) : Bool := clsB Pr "ValueError" "ValueError.__new__" bmV K in_InvalidNumber ["code", "given"] && overB "ValueError.__init__" K "InvalidNumber" "OnceError"
abbrev st_InvalidText : Stmt := clsS 6 0
def in_InvalidText : IniD := ⟨"InvalidText", "InvalidText.__init__", defArgs st_InvalidText, defBody st_InvalidText, defScope st_InvalidText⟩
theorem is_InvalidText : IniS in_InvalidText := ⟨⟨_, rfl, rfl⟩, rfl, rfl, rfl, rfl, by decide +kernel, rfl, rfl, fun _ _ _ _ => rfl⟩
theorem tx_InvalidText : Sub1T in_InvalidText "InvalidText" "line" := ⟨⟨_, _, _, _, _, _, _, _, _, _, _, rfl, _, fun _ _ _ _ => rfl⟩, rfl, ⟨by decide, by decide, by decide⟩, fun _ _ _ _ _ _ _ _ => rfl⟩
def cb_InvalidText (K : Frag) : Bool := clsB Pr "ValueError" "ValueError.__new__" bmV K in_InvalidText ["code", "line"] && overB "ValueError.__init__" K "InvalidText" "OnceError"
abbrev st_TooMany : Stmt := clsS 7 0
def in_TooMany : IniD := ⟨"TooMany", "TooMany.__init__", defArgs st_TooMany, defBody st_TooMany, defScope st_TooMany⟩
theorem is_TooMany : IniS in_TooMany := ⟨⟨_, rfl, rfl⟩, rfl, rfl, rfl, rfl, by decide +kernel, rfl, rfl, fun _ _ _ _ => rfl⟩
theorem tx_TooMany : Sub1T in_TooMany "TooMany" "most" := ⟨⟨_, _, _, _, _, _, _, _, _, _, _, rfl, _, fun _ _ _ _ => rfl⟩, rfl, ⟨by decide, by decide, by decide⟩, fun _ _ _ _ _ _ _ _ => rfl⟩
def cb_TooMany (K : Frag) : Bool := clsB Pr "ValueError" "ValueError.__new__" bmV K in_TooMany ["code", "most"] && overB "ValueError.__init__" K "TooMany" "OnceError"
abbrev st_InvalidCell : Stmt := clsS 8 0
def in_InvalidCell : IniD := ⟨"InvalidCell", "InvalidCell.__init__", defArgs st_InvalidCell, defBody st_InvalidCell, defScope st_InvalidCell⟩
theorem is_InvalidCell : IniS in_InvalidCell := ⟨⟨_, rfl, rfl⟩, rfl, rfl, rfl, rfl, by decide +kernel, rfl, rfl, fun _ _ _ _ => rfl⟩
theorem tx_InvalidCell : Sub1T in_InvalidCell "InvalidCell" "at" := ⟨⟨_, _, _, _, _, _, _, _, _, _, _, rfl, _, fun _ _ _ _ => rfl⟩, rfl, ⟨by decide, by decide, by decide⟩, fun _ _ _ _ _ _ _ _ => rfl⟩
def cb_InvalidCell (K : Frag) : Bool := clsB Pr "ValueError" "ValueError.__new__" bmV K in_InvalidCell ["code", "at"] && overB "ValueError.__init__" K "InvalidCell" "OnceError"
abbrev st_InvalidStep : Stmt := clsS 9 0
def in_InvalidStep : IniD := ⟨"InvalidStep", "InvalidStep.__init__", defArgs st_InvalidStep, defBody st_InvalidStep, defScope st_InvalidStep⟩
theorem is_InvalidStep : IniS in_InvalidStep := ⟨⟨_, rfl, rfl⟩, rfl, rfl, rfl, rfl, by decide +kernel, rfl, rfl, fun _ _ _ _ => rfl⟩
theorem tx_InvalidStep : Sub1T in_InvalidStep "InvalidStep" "at" := ⟨⟨_, _, _, _, _, _, _, _, _, _, _, rfl, _, fun _ _ _ _ => rfl⟩, rfl, ⟨by decide, by decide, by decide⟩, fun _ _ _ _ _ _ _ _ => rfl⟩
def cb_InvalidStep (K : Frag) : Bool := clsB Pr "ValueError" "ValueError.__new__" bmV K in_InvalidStep ["code", "at"] && overB "ValueError.__init__" K "InvalidStep" "OnceError"
def erN : List Str := ["NothingLeft", "InvalidNumber", "InvalidText", "TooMany", "InvalidCell", "InvalidStep"]
def erA (K : Frag) : List Addr := erN.map (He.ga K)
def fN_given : List Str := ["InvalidNumber"]
def fA_given (K : Frag) : List Addr := fN_given.map (He.ga K)
def fN_name : List Str := []
def fA_name (K : Frag) : List Addr := fN_name.map (He.ga K)
def fN_table : List Str := []
def fA_table (K : Frag) : List Addr := fN_table.map (He.ga K)
def fN_at : List Str := ["InvalidCell", "InvalidStep"]
def fA_at (K : Frag) : List Addr := fN_at.map (He.ga K)
def fN_line : List Str := ["InvalidText"]
def fA_line (K : Frag) : List Addr := fN_line.map (He.ga K)
def fN_most : List Str := ["TooMany"]
def fA_most (K : Frag) : List Addr := fN_most.map (He.ga K)
def cb_exm (K : Frag) : Bool := erN.all fun c => decide (exmAny K (.ref (He.ga K c)) [.ref (He.ga K "OnceError"), .ref (He.ga K "Missing"), .ref (He.ga K "NothingLeft")] = some true)
def exL : List (Frag → Bool) := [cb_OnceError, cb_Missing, cb_NothingLeft, cb_InvalidNumber, cb_InvalidText, cb_TooMany, cb_InvalidCell, cb_InvalidStep, cb_exm]
def exK (K : Frag) : Bool := exL.all fun f => f K
def inL : List IniD := [in_OnceError, in_Missing, in_NothingLeft, in_InvalidNumber, in_InvalidText, in_TooMany, in_InvalidCell, in_InvalidStep]
theorem ex_at {K : Frag} (h : exK K = true) {f : Frag → Bool} (m : f ∈ exL) : f K = true := List.all_eq_true.mp h f m
section
variable {w : World} {K : Frag} {mg : Str → Option Value} {base : Heap}
theorem and1 {a b : Bool} (h : (a && b) = true) : a = true := by simp only [Bool.and_eq_true] at h; exact h.1
theorem and2 {a b : Bool} (h : (a && b) = true) : b = true := by simp only [Bool.and_eq_true] at h; exact h.2
theorem co_OnceError (h : exK K = true) (hi : ∀ d ∈ inL, iniW K d.cls = d.val) : ClsO Pr "ValueError" "ValueError.__new__" "ValueError.__init__" bmV K in_OnceError ["code"] := clsO_of lib_V is_OnceError (hi _ (by simp [inL])) (show clsB _ _ _ _ _ _ _ = true from (ex_at (f := cb_OnceError) h (by simp [exL])))
theorem co_NothingLeft (h : exK K = true) (hi : ∀ d ∈ inL, iniW K d.cls = d.val) : ClsO Pr "IndexError" "IndexError.__new__" "IndexError.__init__" bmX K in_NothingLeft ["code"] := clsO_of lib_X is_NothingLeft (hi _ (by simp [inL])) (show clsB _ _ _ _ _ _ _ = true from and1 (ex_at (f := cb_NothingLeft) h (by simp [exL])))
theorem co_InvalidNumber (h : exK K = true) (hi : ∀ d ∈ inL, iniW K d.cls = d.val) : ClsO Pr "ValueError" "ValueError.__new__" "ValueError.__init__" bmV K in_InvalidNumber ["code", "given"] := clsO_of lib_V is_InvalidNumber (hi _ (by simp [inL])) (show clsB _ _ _ _ _ _ _ = true from and1 (ex_at (f := cb_InvalidNumber) h (by simp [exL])))
theorem er_InvalidNumber (T : TopO Pr mg) (h : exK K = true) (hi : ∀ d ∈ inL, iniW K d.cls = d.val) : Err Pr w K mg base 2 (He.ga K "InvalidNumber") "InvalidNumber" ["given"] := err_sub1 T (co_InvalidNumber h hi) (co_OnceError h hi) tx_OnceError tx_InvalidNumber (by decide) (by decide) (and2 (ex_at (f := cb_InvalidNumber) h (by simp [exL])))
theorem co_InvalidText (h : exK K = true) (hi : ∀ d ∈ inL, iniW K d.cls = d.val) : ClsO Pr "ValueError" "ValueError.__new__" "ValueError.__init__" bmV K in_InvalidText ["code", "line"] := clsO_of lib_V is_InvalidText (hi _ (by simp [inL])) (show clsB _ _ _ _ _ _ _ = true from and1 (ex_at (f := cb_InvalidText) h (by simp [exL])))
theorem er_InvalidText (T : TopO Pr mg) (h : exK K = true) (hi : ∀ d ∈ inL, iniW K d.cls = d.val) : Err Pr w K mg base 2 (He.ga K "InvalidText") "InvalidText" ["line"] := err_sub1 T (co_InvalidText h hi) (co_OnceError h hi) tx_OnceError tx_InvalidText (by decide) (by decide) (and2 (ex_at (f := cb_InvalidText) h (by simp [exL])))
theorem co_TooMany (h : exK K = true) (hi : ∀ d ∈ inL, iniW K d.cls = d.val) : ClsO Pr "ValueError" "ValueError.__new__" "ValueError.__init__" bmV K in_TooMany ["code", "most"] := clsO_of lib_V is_TooMany (hi _ (by simp [inL])) (show clsB _ _ _ _ _ _ _ = true from and1 (ex_at (f := cb_TooMany) h (by simp [exL])))
theorem er_TooMany (T : TopO Pr mg) (h : exK K = true) (hi : ∀ d ∈ inL, iniW K d.cls = d.val) : Err Pr w K mg base 2 (He.ga K "TooMany") "TooMany" ["most"] := err_sub1 T (co_TooMany h hi) (co_OnceError h hi) tx_OnceError tx_TooMany (by decide) (by decide) (and2 (ex_at (f := cb_TooMany) h (by simp [exL])))
theorem co_InvalidCell (h : exK K = true) (hi : ∀ d ∈ inL, iniW K d.cls = d.val) : ClsO Pr "ValueError" "ValueError.__new__" "ValueError.__init__" bmV K in_InvalidCell ["code", "at"] := clsO_of lib_V is_InvalidCell (hi _ (by simp [inL])) (show clsB _ _ _ _ _ _ _ = true from and1 (ex_at (f := cb_InvalidCell) h (by simp [exL])))
theorem er_InvalidCell (T : TopO Pr mg) (h : exK K = true) (hi : ∀ d ∈ inL, iniW K d.cls = d.val) : Err Pr w K mg base 2 (He.ga K "InvalidCell") "InvalidCell" ["at"] := err_sub1 T (co_InvalidCell h hi) (co_OnceError h hi) tx_OnceError tx_InvalidCell (by decide) (by decide) (and2 (ex_at (f := cb_InvalidCell) h (by simp [exL])))
theorem co_InvalidStep (h : exK K = true) (hi : ∀ d ∈ inL, iniW K d.cls = d.val) : ClsO Pr "ValueError" "ValueError.__new__" "ValueError.__init__" bmV K in_InvalidStep ["code", "at"] := clsO_of lib_V is_InvalidStep (hi _ (by simp [inL])) (show clsB _ _ _ _ _ _ _ = true from and1 (ex_at (f := cb_InvalidStep) h (by simp [exL])))
theorem er_InvalidStep (T : TopO Pr mg) (h : exK K = true) (hi : ∀ d ∈ inL, iniW K d.cls = d.val) : Err Pr w K mg base 2 (He.ga K "InvalidStep") "InvalidStep" ["at"] := err_sub1 T (co_InvalidStep h hi) (co_OnceError h hi) tx_OnceError tx_InvalidStep (by decide) (by decide) (and2 (ex_at (f := cb_InvalidStep) h (by simp [exL])))
theorem anK (hex : exK K = true) (hin : ∀ d ∈ inL, iniW K d.cls = d.val) : ∀ x ∈ erN, AnC K (He.ga K x) (iniF K x) := by
  intro x hx
  simp only [erN, List.mem_cons, List.not_mem_nil, or_false] at hx
  rcases hx with h | h | h | h | h | h
  · subst h; exact (co_NothingLeft hex hin).an
  · subst h; exact (co_InvalidNumber hex hin).an
  · subst h; exact (co_InvalidText hex hin).an
  · subst h; exact (co_TooMany hex hin).an
  · subst h; exact (co_InvalidCell hex hin).an
  · subst h; exact (co_InvalidStep hex hin).an
theorem naK_code (hex : exK K = true) (hin : ∀ d ∈ inL, iniW K d.cls = d.val) : ∀ x ∈ erN, findIn K (.ref (He.ga K x)) "code" = some none := by
  intro x hx
  simp only [erN, List.mem_cons, List.not_mem_nil, or_false] at hx
  rcases hx with h | h | h | h | h | h
  · subst h; exact (co_NothingLeft hex hin).na _ (by decide)
  · subst h; exact (co_InvalidNumber hex hin).na _ (by decide)
  · subst h; exact (co_InvalidText hex hin).na _ (by decide)
  · subst h; exact (co_TooMany hex hin).na _ (by decide)
  · subst h; exact (co_InvalidCell hex hin).na _ (by decide)
  · subst h; exact (co_InvalidStep hex hin).na _ (by decide)
theorem naK_given (hex : exK K = true) (hin : ∀ d ∈ inL, iniW K d.cls = d.val) : ∀ x ∈ fN_given, findIn K (.ref (He.ga K x)) "given" = some none := by
  intro x hx
  simp only [fN_given, List.mem_cons, List.not_mem_nil, or_false] at hx
  subst hx; exact (co_InvalidNumber hex hin).na _ (by decide)
theorem subN_given : ∀ x ∈ fN_given, x ∈ erN := by decide
theorem naK_name (hex : exK K = true) (hin : ∀ d ∈ inL, iniW K d.cls = d.val) : ∀ x ∈ fN_name, findIn K (.ref (He.ga K x)) "name" = some none := by
  intro x hx
  simp [fN_name] at hx
theorem subN_name : ∀ x ∈ fN_name, x ∈ erN := by decide
theorem naK_table (hex : exK K = true) (hin : ∀ d ∈ inL, iniW K d.cls = d.val) : ∀ x ∈ fN_table, findIn K (.ref (He.ga K x)) "table" = some none := by
  intro x hx
  simp [fN_table] at hx
theorem subN_table : ∀ x ∈ fN_table, x ∈ erN := by decide
theorem naK_at (hex : exK K = true) (hin : ∀ d ∈ inL, iniW K d.cls = d.val) : ∀ x ∈ fN_at, findIn K (.ref (He.ga K x)) "at" = some none := by
  intro x hx
  simp only [fN_at, List.mem_cons, List.not_mem_nil, or_false] at hx
  rcases hx with h | h
  · subst h; exact (co_InvalidCell hex hin).na _ (by decide)
  · subst h; exact (co_InvalidStep hex hin).na _ (by decide)
theorem subN_at : ∀ x ∈ fN_at, x ∈ erN := by decide
theorem naK_line (hex : exK K = true) (hin : ∀ d ∈ inL, iniW K d.cls = d.val) : ∀ x ∈ fN_line, findIn K (.ref (He.ga K x)) "line" = some none := by
  intro x hx
  simp only [fN_line, List.mem_cons, List.not_mem_nil, or_false] at hx
  subst hx; exact (co_InvalidText hex hin).na _ (by decide)
theorem subN_line : ∀ x ∈ fN_line, x ∈ erN := by decide
theorem naK_most (hex : exK K = true) (hin : ∀ d ∈ inL, iniW K d.cls = d.val) : ∀ x ∈ fN_most, findIn K (.ref (He.ga K x)) "most" = some none := by
  intro x hx
  simp only [fN_most, List.mem_cons, List.not_mem_nil, or_false] at hx
  subst hx; exact (co_TooMany hex hin).na _ (by decide)
theorem subN_most : ∀ x ∈ fN_most, x ∈ erN := by decide
theorem mem_ga {l : List Str} {P : Addr → Prop} (h : ∀ x ∈ l, P (He.ga K x)) : ∀ C ∈ l.map (He.ga K), P C := fun C hC => by
  obtain ⟨x, hx, rfl⟩ := List.mem_map.mp hC
  exact h x hx
theorem exmK (h : exK K = true) : ∀ x ∈ erN, exmAny K (.ref (He.ga K x)) [.ref (He.ga K "OnceError"), .ref (He.ga K "Missing"), .ref (He.ga K "NothingLeft")] = some true := fun x hx =>
  of_decide_eq_true (List.all_eq_true.mp (ex_at (f := cb_exm) h (by simp [exL])) x hx)
end
end LW
set_option Elab.async false
set_option linter.all false
set_option maxRecDepth 100000
set_option maxHeartbeats 4000000
namespace EV
open PySem PySem.Spec PyProof.Rows L2
section
variable {X : Cx} {L : Pl} {a : Expr} {m : DE} {pos : Pos}
/-- - e -/
def negD : D → (D → Prop) → Prop
  | .int i, Q => Q (.int (-i))
  | _, _ => False
abbrev dNeg (m : DE) : DE := fun ρ O Q E => m ρ O (fun x O1 => negD x fun d => Q d O1) E
theorem d_neg (h : DPE X L a m) : DPE X L (.UnaryOp .USub a pos) (dNeg m) := by
  refine ⟨fun ρ O Q Q' E E' q hx x => h.mo ρ _ _ _ _ _ (fun d O1 z => ?_) hx x, pe_imp (pe_un un_neg h.run) fun σ H Q ⟨G, O, ρ, g, rs, q⟩ => ?_⟩
  · cases d <;> first | exact q _ _ z | exact z
  · refine up_of h.mo g rs q fun x v O1 G1 H1 q1 s1 r1 => ?_
    cases r1 <;> first
      | exact ⟨_, rfl, q1 _ _ _ s1 (.int _)⟩
      | exact q1.elim
/-- a text among texts -/
def inSD (f : Bool → Bool) : P2
  | .str x, .tup xs, Q => match toSs xs with
    | some ss => Q (.bl (f (ss.any fun z => decide (x = z))))
    | none => False
  | .str x, .lst xs, Q => match toSs xs with
    | some ss => Q (.bl (f (ss.any fun z => decide (x = z))))
    | none => False
  | _, _, _ => False
theorem flat_strs (ss : List Str) : (ss.map V.str).all flatV = true := by
  induction ss with
  | nil => rfl
  | cons a r ih => simp [flatV, ih]
theorem inV_strs (x : Str) (ss : List Str) : inV (.str x) (ss.map V.str) = ss.any fun z => decide (x = z) := by
  induction ss with
  | nil => rfl
  | cons a r ih =>
    have e : eqV (V.str a) (V.str x) = decide (x = a) := by
      by_cases h : x = a
      · subst h; simp [eqV]
      · have h' : ¬ a = x := fun z => h z.symm
        simp [eqV, h, h']
    simp [inV] at ih ⊢
    simp [ih, e]
theorem od_inSf {B : Bo} {op : CmpOp} {f : Bool → Bool} {ng : Bool} (h : OpR X (compareOp op) (rIn X.K ng)) (hf : ∀ b, (if ng = true then !b else b) = f b) : OpD X B (compareOp op) (pu (inSD f)) := by
  refine ⟨fun O x y Q Q' q z => ?_, _, h, fun O G H x y a b Q gd r1 r2 q => ?_⟩
  · dsimp only [pu] at z ⊢; unfold inSD at z ⊢
    split at z
    · split at z
      · exact q _ z
      · exact z
    · split at z
      · exact q _ z
      · exact z
    · exact z
  · dsimp only [pu] at q; unfold inSD at q
    split at q
    · split at q
      · rename_i ss e
        cases r1
        cases r2 with
        | tup s l =>
          have ev := toSs_vs l e
          subst ev
          exact ⟨_, _, rfl, .inr (gd.sub.sqT s), rfl, flat_strs ss, by rw [hf, inV_strs]; exact q _ _ _ (Step.refl gd) (.bl _)⟩
      · exact q.elim
    · split at q
      · rename_i ss e
        cases r1
        cases r2 with
        | lst s l =>
          have ev := toSs_vs l e
          subst ev
          exact ⟨_, _, rfl, .inl (gd.sub.lstL s), rfl, flat_strs ss, by rw [hf, inV_strs]; exact q _ _ _ (Step.refl gd) (.bl _)⟩
      · exact q.elim
    · exact q.elim
theorem od_inS {B : Bo} : OpD X B (compareOp .In) (pu (inSD id)) := od_inSf op_in_seq fun b => rfl
theorem od_notinS {B : Bo} : OpD X B (compareOp .NotIn) (pu (inSD not)) := od_inSf op_notIn_seq fun b => rfl
end
end EV
set_option Elab.async false
set_option linter.all false
set_option maxRecDepth 100000
set_option maxHeartbeats 4000000
namespace EV
open PySem PySem.Spec PyProof.Rows L2
section
variable {X : Cx} {L : Pl} {a b c : Expr} {mA : DA} {pos : Pos}
/-- x, y = a, b with plain local names -/
abbrev dPar (i j : Nat) (mA : DA) : DS := fun A ρ O => mA ρ O (fun ds O1 => match ds with
  | [u, v] => A.nx ((ρ.set i (.sh u)).set j (.sh v)) O1
  | _ => False) (fun x O1 => A.ex x ρ O1)
theorem d_par {i j : Nat} {x y : Str} {px py pt : Pos} {kt k2 pt2} (hc : X.calm = true) (hN : X.N.Nodup) (hi : X.N[i]? = some x) (hj : X.N[j]? = some y) (hij : i ≠ j)
    (hx : X.env.scope.names.lookup x = some .local) (hy : X.env.scope.names.lookup y = some .local) (ha : DPA X L [a, b] mA)
    (hw : swappedStores [.Tuple [.Name x px, .Name y py] kt pt] (.Tuple [a, b] k2 pt2) X.env = pure (some [x, y]))
    (hs : swapsWithSole [.Tuple [.Name x px, .Name y py] kt pt] (.Tuple [a, b] k2 pt2) pos.line X.env = pure false) :
    DPS X L (.Assign [.Tuple [.Name x px, .Name y py] kt pt] (.Tuple [a, b] k2 pt2) pos) (dPar i j mA) := by
  refine ⟨fun A A' ρ O l z => ha.mo _ _ _ _ _ _ (fun d O1 y => ?_) (fun x _ y => l.ex _ _ _ y) z, ps_imp (ps_par hc hN hi hj hij hx hy ha.run hw hs) fun Dn σ H ⟨G, O, ρ, g, rs, q⟩ => ?_⟩
  · split at y
    · exact l.nx _ _ y
    · exact y
  · refine upAE ha.mo g rs q fun ds vs O1 G1 H1 q1 s1 r1 => ?_
    split at q1
    · cases r1 with
      | cons r1 r2 =>
        cases r2 with
        | cons r2 r3 =>
          cases r3
          exact ⟨_, _, rfl, q1 _ _ _ s1 (((rs.step s1).set r1).set r2)⟩
    · exact q1.elim
abbrev dPar3 (i j l : Nat) (mA : DA) : DS := fun A ρ O => mA ρ O (fun ds O1 => match ds with
  | [u, v, w] => A.nx (((ρ.set i (.sh u)).set j (.sh v)).set l (.sh w)) O1
  | _ => False) (fun x O1 => A.ex x ρ O1)
theorem d_par3 {i j l : Nat} {x y z : Str} {px py pz pt : Pos} {kt k2 pt2} (hc : X.calm = true) (hN : X.N.Nodup) (hi : X.N[i]? = some x) (hj : X.N[j]? = some y) (hl : X.N[l]? = some z) (hij : i ≠ j) (hil : i ≠ l) (hjl : j ≠ l)
    (hx : X.env.scope.names.lookup x = some .local) (hy : X.env.scope.names.lookup y = some .local) (hz : X.env.scope.names.lookup z = some .local) (ha : DPA X L [a, b, c] mA)
    (hw : swappedStores [.Tuple [.Name x px, .Name y py, .Name z pz] kt pt] (.Tuple [a, b, c] k2 pt2) X.env = pure (some [x, y, z]))
    (hs : swapsWithSole [.Tuple [.Name x px, .Name y py, .Name z pz] kt pt] (.Tuple [a, b, c] k2 pt2) pos.line X.env = pure false) :
    DPS X L (.Assign [.Tuple [.Name x px, .Name y py, .Name z pz] kt pt] (.Tuple [a, b, c] k2 pt2) pos) (dPar3 i j l mA) := by
  refine ⟨fun A A' ρ O l z => ha.mo _ _ _ _ _ _ (fun d O1 y => ?_) (fun x _ y => l.ex _ _ _ y) z, ps_imp (ps_par3 hc hN hi hj hl hij hil hjl hx hy hz ha.run hw hs) fun Dn σ H ⟨G, O, ρ, g, rs, q⟩ => ?_⟩
  · split at y
    · exact l.nx _ _ y
    · exact y
  · refine upAE ha.mo g rs q fun ds vs O1 G1 H1 q1 s1 r1 => ?_
    split at q1
    · cases r1 with
      | cons r1 r2 =>
        cases r2 with
        | cons r2 r3 =>
          cases r3 with
          | cons r3 r4 =>
            cases r4
            exact ⟨_, _, _, rfl, q1 _ _ _ s1 ((((rs.step s1).set r1).set r2).set r3)⟩
    · exact q1.elim
end
end EV
set_option Elab.async false
set_option linter.all false
set_option maxRecDepth 100000
set_option maxHeartbeats 4000000
namespace PySem
open Sem (wp)
theorem enum_new1 {v : Value} {o : Obj} {H : Heap → Prop} (B : Begins v o H) :
    Meets (Builtin.«enumerate.__new__» ⟨[.type "enumerate", v], []⟩) (fun _ R s => H s.heap ∧
      R (.ok (.ret (.ref (s.heap.push o).objs.size))) { s with heap := (s.heap.push o).push { cls := .type "enumerate", data := .fields #[.none, .bool false, .ref s.heap.objs.size, rawInt 0, .none, .none] } }) :=
  .of_wp fun prog w A R s h => by
    obtain ⟨hp, g, d, tk, os⟩ := s; obtain ⟨h1, h⟩ := h
    have hsub := sub_enumerate
    have q1 : ∀ {A' : Around} {E : Value → Shared → Prop} {Q : Value → Shared → Prop}, Q (.ref hp.objs.size) ⟨hp.push o, g, d, tk, os⟩ → wpAny (model prog w) A' (pyIter v) Q E ⟨hp, g, d, tk, os⟩ :=
      fun q => B.iter prog w _ _ ⟨hp, g, d, tk, os⟩ _ h1 q
    wp_walk using q1
    refine wpAny_stack_any fun st => wpAny_pure ?_
    split
    · rename_i c _ _ _ _ _
      cases (c == Value.type "enumerate")
      · wp_walk using q1
        exact ⟨_, rfl, h⟩
      · wp_walk using q1
        exact ⟨_, rfl, h⟩
    · wp_walk using q1
      exact ⟨_, rfl, h⟩
theorem enum_begins1 {prog : Program} {w : World} {A : Around} {E : Value → Shared → Prop} {s : Shared} {v : Value} {o : Obj} {H : Heap → Prop} {Q : Value → Shared → Prop} (B : Begins v o H) (h1 : H s.heap)
    (h : ∀ h', IsEnum h' (s.heap.objs.size + 1) s.heap.objs.size 0 .none → h'.get? s.heap.objs.size = some o → h'.objs.size = s.heap.objs.size + 2 →
      (∀ b o, s.heap.get? b = some o → h'.get? b = some o) → Q (.ref (s.heap.objs.size + 1)) { s with heap := h' }) :
    wpAny (model prog w) A (call (.type "enumerate") [v]) Q E s := by
  refine callType_new F.called_enumerate (by decide) (F.typeCall_enumerate_1 _) (F.newCall_enumerate_1 _) (fun obj => F.args_object_init_2 obj _) F.entry_enumerate_new (enum_new1 B) ⟨h1, ?_⟩
  have hz : (s.heap.push o).objs.size = s.heap.objs.size + 1 := Heap.size_push ..
  show _ ∧ _
  rw [hz]
  have he : IsEnum ((s.heap.push o).push { cls := .type "enumerate", data := .fields #[.none, .bool false, .ref s.heap.objs.size, rawInt 0, .none, .none] }) (s.heap.objs.size + 1) s.heap.objs.size 0 .none := by
    have := Heap.get?_push_size (s.heap.push o) (o := { cls := .type "enumerate", data := .fields #[.none, .bool false, .ref s.heap.objs.size, rawInt 0, .none, .none] }) rfl
    rw [hz] at this; exact this
  refine ⟨⟨_, he, rfl⟩, h _ he (Heap.get?_push_of_some _ (Heap.get?_push_size _ B.free)) (by rw [Heap.size_push, hz]) fun b o x => Heap.get?_push_of_some _ (Heap.get?_push_of_some _ x)⟩
end PySem
namespace EV
open PySem PySem.Spec PyProof.Rows L2
def Iten (K : PySem.W.Frag) (r : Src) : It :=
  ⟨fun i H => ∃ (xs : List V) (x : V), SrcAt K H r xs ∧ xs[i]? = some x,
    fun i H v H' => ∃ T x, v = .ref T ∧ H T = none ∧ H' = upd H T (.tup [.int (i : Nat), x]) ∧ ∀ xs, SrcAt K H r xs → xs[i]? = some x,
    fun i H => ∃ xs : List V, SrcAt K H r xs ∧ i = xs.length⟩
theorem turn_en {P : Program} {w : World} {K : PySem.W.Frag} {elts : List Expr} {kk : Nat} {tpos : Pos} {e it : Addr} {r : Src} (hne : e ≠ it) (n1 : it ∉ r.fp) (n2 : e ∉ r.fp) :
    Turn P w K (.Tuple elts kk tpos) (Iten K r) [e, it] e (fun i h => (∃ old, IsEnum h e it ((i : Nat) : Int) old) ∧ r.pos it i h) where
  mem := by simp
  obj := fun i h st c hc => by
    obtain ⟨⟨old, he⟩, p⟩ := st
    have e' : c = e ∨ c = it := by simpa using hc
    rcases e' with q | q
    · rw [q]; exact ⟨_, he, fun v q => nomatch q⟩
    · rw [q]; exact Src.pos_obj p
  keep := fun i h h' st k => by
    obtain ⟨⟨old, he⟩, p⟩ := st
    exact ⟨⟨old, k e (by simp) _ he⟩, Src.pos_at p fun o q => k it (by simp) o q⟩
  item := by
    intro X hP hw hK hc i pins s σ H E I hf st hg
    subst hP hw hK
    obtain ⟨he, p⟩ := st
    obtain ⟨xs, x, q1, hx⟩ := hg
    have hh : X.A.in1.handled = none := I.ok.hd hc
    obtain ⟨fp, P1, St, rfl, D, st1, rel, posn⟩ := src_draws I q1 p X.A.in1 hh n1
    have W := WalksT.enumerateD (A := X.A) D e hne (by simp only [List.mem_cons, not_or]; exact ⟨hne, n2⟩) (by simp)
    have hi : i < xs.length := getElem?_lt hx
    refine W.item i s _ E hi ⟨he, st1⟩ fun T vals h' tk hp hT hTup mid keep => ?_
    refine ⟨_, rfl, W.go elts kk tpos i T { s with heap := h', toks := tk } _ E mid fun h2 stn keep2 => ?_⟩
    obtain ⟨t, u, pu, rfl⟩ := hp
    obtain ⟨x', ex, ru⟩ := rel i u pu
    rw [hx] at ex
    cases ex
    have nT : T ∉ [e, it] := W.apart i T h' mid
    have hT2 : h2.IsTuple T #[.int i t, u] := hTup.at fun o q => keep2 T o nT q
    have new : ObjOk X.prog X.w (upd H T (.tup [.int (i : Nat), x])) h2 T (.tup [.int (i : Nat), x]) := ⟨by show 2 ≤ sizeLine; decide, [.int i t, u], .cons ⟨_, rfl⟩ (.cons ru .nil), hT2⟩
    have I1 : Inv X pins σ (upd H T (.tup [.int (i : Nat), x])) { s with heap := h2, toks := tk } := I.turnedNew (t' := tk) (ch := [e, it]) (fun c o hc q => keep2 c o hc (keep c o hc q)) hf hT new
    refine ⟨.ref T, _, I1, rfl, ⟨T, x, rfl, I.hok.fresh hT, rfl, fun l hl => by rw [src_inj I hl q1]; exact hx⟩, ⟨stn.1, posn _ _ stn.2⟩, fun c hcm => ?_⟩
    have hlt : c < s.heap.objs.size := by
      have e' : c = e ∨ c = it := by simpa using hcm
      rcases e' with q | q
      · obtain ⟨old, he⟩ := he
        rw [q]; exact Heap.lt_size he
      · rw [q]; obtain ⟨o, z, _⟩ := Src.pos_obj p; exact Heap.lt_size z
    rw [upd_ne (Nat.ne_of_lt (Nat.lt_of_lt_of_le hlt hT))]
    exact (hf c hcm).1
  done := by
    intro X hP hw hK hc i pins s σ H E I hf st hg
    subst hP hw hK
    obtain ⟨he, p⟩ := st
    obtain ⟨xs, q1, hend⟩ := hg
    have hh : X.A.in1.handled = none := I.ok.hd hc
    obtain ⟨fp, P1, St, rfl, D, st1, rel, posn⟩ := src_draws I q1 p X.A.in1 hh n1
    have W := WalksT.enumerateD (A := X.A) D e hne (by simp only [List.mem_cons, not_or]; exact ⟨hne, n2⟩) (by simp)
    subst hend
    exact W.done s _ E ⟨he, st1⟩ fun h' tk keep => ⟨rfl, I.turnedL (t' := tk) (ch := [e, it]) (fun c o hc q => keep c o hc q) hf⟩
  self := fun A i s Q E st h => let ⟨⟨_, he⟩, _⟩ := st; wpAny_pyIter_enum he h
section
variable {X : Cx} {L : Pl} {e : Expr} {mA : DA} {pos p : Pos}
def iEn (K : PySem.W.Frag) (ta : TA) : TI := fun σ H R => ta σ H fun vs H1 => ∃ v r, vs = [v] ∧ SrcV v r ∧ (∃ xs, SrcAt K H1 r xs) ∧ R (Iten K r) H1
theorem pi_en {ta : TA} {tpos : Pos} {elts : List Expr} {kk : Nat} (hg : Gl X "enumerate") (hm : X.mg "enumerate" = none) (ha : PA X [e] ta) (hs : starEach [e] X.env = [(false, eval e X.env)]) :
    PI X (.Tuple elts kk tpos) (.Call (.Name "enumerate" p) [e] [] pos) (iEn X.K ta) := by
  refine ⟨fun pins s σ H R I h => ?_⟩
  refine Call_ (ld_blt I hg hm boot_enumerate (PyProof.Rows.callWith_type1 (thn (ha.run pos pins s σ H _ I h) fun us s1 ⟨vs, H1, I1, r1, q1⟩ => ?_) hs rfl))
  obtain ⟨v, c, ex, k1, ⟨xs, a1⟩, q⟩ := q1
  subst ex
  cases r1 with
  | cons r rr =>
    cases rr
    obtain ⟨o1, Hc1, B1, h1, p1, f1⟩ := src_begins I1 k1 a1 r
    refine enum_begins1 B1 h1 fun h' he g1 hsz hk => wpAny_pyIter_enum he ?_
    have nf : ∀ {fp : List Addr} {c : Addr}, (∀ b ∈ fp, b < s1.heap.objs.size) → s1.heap.objs.size ≤ c → c ∉ fp := fun hf hc z => absurd (Nat.lt_of_lt_of_le (hf _ z) hc) (Nat.lt_irrefl _)
    have I2 : Inv X pins σ H1 { s1 with heap := h' } := I1.kept (t' := s1.toks) hk
    refine ⟨s1.heap.objs.size + 1, [s1.heap.objs.size + 1, s1.heap.objs.size], _, _, H1, rfl, I2, turn_en (Nat.succ_ne_self _) (nf f1 (Nat.le_refl _)) (nf f1 (Nat.le_succ _)), ⟨⟨.none, he⟩, p1 _ _ g1⟩, fun b hb => ?_, q⟩
    have e' : b = s1.heap.objs.size + 1 ∨ b = s1.heap.objs.size := by simpa using hb
    have hle : s1.heap.objs.size ≤ b := by
      rcases e' with z | z
      · rw [z]; exact Nat.le_add_right _ _
      · rw [z]; exact Nat.le_refl _
    exact I1.fpOk hle (I1.hok.fresh hle)
/-- the pairs of enumerate -/
def enumL (xs : List D) : List D := xs.zipIdx.map fun p => .tup [.int p.2, p.1]
def enumD : List D → (IL → Prop) → Prop
  | [x], Q => itemsP x fun xs => Q (tt1, enumL xs)
  | _, _ => False
theorem enumD_mo {x : List D} {Q Q' : IL → Prop} (h : ∀ d, Q d → Q' d) (z : enumD x Q) : enumD x Q' := by
  unfold enumD at z ⊢
  split at z
  · exact itemsP_mo (fun _ w => h _ w) z
  · exact z
abbrev dEnum (mA : DA) : DI := fun ρ O Q E => mA ρ O (fun xs O1 => enumD xs fun l => Q l O1) E
theorem itd_en {K : PySem.W.Frag} {B : Bo} {G0 : Hp} {c : Src} {xs : List V} {ds : List D} (r1 : RpL K G0 xs ds) (a1 : ∀ H, Sub G0 H → SrcAt K H c xs) : ItD K B G0 (Iten K c) (tt1, enumL ds) := fun i O G H g sb _ => by
  have sH := sb.trans g.sub
  have hl : (enumL ds).length = xs.length := by simp [enumL, r1.length]
  refine ⟨fun d e => ?_, fun (h : i = (enumL ds).length) => ⟨xs, a1 H sH, by rw [← hl]; exact h⟩⟩
  have e : (enumL ds)[i]? = some d := e
  unfold enumL at e
  rw [List.getElem?_map, List.getElem?_zipIdx] at e
  cases e1 : ds[i]? with
  | none => rw [e1] at e; cases e
  | some d1 =>
    rw [e1] at e
    simp only [Option.map_some, Option.some.injEq, Nat.zero_add] at e
    subst e
    obtain ⟨v1, f1, q1⟩ := r1.get e1
    refine ⟨⟨xs, v1, a1 H sH, f1⟩, fun x H' y => ?_⟩
    obtain ⟨T, x', rfl, nT, rfl, g1⟩ := y
    have h1 := g1 xs (a1 H sH)
    rw [f1] at h1
    cases h1
    have st := Step.new (o := .tup [.int (i : Nat), v1]) g nT
    exact ⟨_, st, new_tup g nT (.cons (.int _) (.cons (q1.mono sb) .nil))⟩
theorem d_enum {tpos : Pos} {elts : List Expr} {kk : Nat} (hg : Gl X "enumerate") (hm : X.mg "enumerate" = none) (ha : DPA X L [e] mA) (hs : starEach [e] X.env = [(false, eval e X.env)]) :
    DPI X L (.Tuple elts kk tpos) (.Call (.Name "enumerate" p) [e] [] pos) (dEnum mA) := by
  refine ⟨fun ρ O Q Q' E E' q hx x => ha.mo ρ _ _ _ _ _ (fun _ _ z => enumD_mo (fun _ => q _ _) z) hx x, pi_imp (pi_en hg hm ha.run hs) fun σ H Q ⟨G, O, ρ, g, rs, q⟩ => ?_⟩
  refine upA_of ha.mo g rs q fun ds vs O1 G1 H1 q1 s1 r1 => ?_
  unfold enumD at q1
  split at q1
  · cases r1 with
    | cons r1 r2 =>
      cases r2
      obtain ⟨c, xs, ds', k1, rl, a1, q1⟩ := src_of r1 q1
      exact ⟨_, c, rfl, k1, ⟨xs, a1 _ s1.good.sub⟩, q1 _ _ _ s1 (itd_en rl a1)⟩
  · exact q1.elim
end
end EV
set_option Elab.async false
set_option linter.all false
set_option maxRecDepth 100000
set_option maxHeartbeats 4000000
namespace EV
open PySem PySem.Spec PyProof.Rows L2
def scV : D → Option V
  | .str x => some (.str x)
  | .int i => some (.int i)
  | .bl b => some (.bl b)
  | .non => some .non
  | _ => none
theorem scV_rp {K : PySem.W.Frag} {G : Hp} {d : D} {v : V} (h : scV d = some v) : Rp K G v d := by
  cases d <;> simp [scV] at h <;> subst h
  · exact .non
  · exact .bl _
  · exact .int _
  · exact .str _
def entB : List DictEntry → List (Str × D) → Bool
  | [], [] => true
  | e :: es, (k, d) :: r => (match e.key with
    | .str x _ => decide (x = k)
    | _ => false) && ((match scV d with
    | some v => He.relB v e.val
    | none => false) && entB es r)
  | _, _ => false
def tabB (K : PySem.W.Frag) (a : Addr) (kvs : List (Str × D)) : Bool := match K.lookup a with
  | some ⟨_, _, .dict es _, _⟩ => entB es.toList kvs
  | _ => false
theorem entB_ok : ∀ {l : List DictEntry} {kvs : List (Str × D)}, entB l kvs = true → ∀ z : Str, (match kvs.lookup z with
    | some d => ∃ v u, scV d = some v ∧ (l.find? fun e => Value.isStrOf z e.key).map (·.val) = some u ∧ RelV v u
    | none => (l.find? fun e => Value.isStrOf z e.key).map (·.val) = none)
  | [], [], _, z => rfl
  | e :: es, (k, d) :: r, h, z => by
    unfold entB at h
    simp only [Bool.and_eq_true] at h
    obtain ⟨h1, h2, h3⟩ := h
    split at h1
    · rename_i x t ek
      have ex : x = k := of_decide_eq_true h1
      subst ex
      have hs : Value.isStrOf z e.key = decide (x = z) := by rw [ek]; by_cases q : x = z <;> simp [Value.isStrOf, q]
      rw [List.lookup_cons, List.find?_cons, hs]
      by_cases q : x = z
      · subst q
        simp only [beq_self_eq_true, decide_true, Option.map_some]
        split at h2
        · rename_i v ev
          exact ⟨v, e.val, ev, rfl, He.relB_ok h2⟩
        · cases h2
      · have q1 : (z == x) = false := by simpa using fun y => q y.symm
        simp only [q1, decide_eq_false q]
        exact entB_ok h3 z
    · cases h1
  | [], _ :: _, h, _ => by cases h
  | _ :: _, [], h, _ => by cases h
structure TabK (K : PySem.W.Frag) (w : World) (a : Addr) (kvs : List (Str × D)) : Prop where
  ex : ∃ es n, KDict K w a es n ∧ ∀ z : Str, (match kvs.lookup z with
    | some d => ∃ v u, scV d = some v ∧ findBy Value.isStrOf es z = some u ∧ RelV v u
    | none => findBy Value.isStrOf es z = none)
theorem tabK_of {K : PySem.W.Frag} {w : World} {a : Addr} {kvs : List (Str × D)} {es : Array DictEntry} {n : Nat} (D : KDict K w a es n) (h : tabB K a kvs = true) : TabK K w a kvs := by
  unfold tabB at h
  rw [D.at_] at h
  have h : entB es.toList kvs = true := h
  refine ⟨es, n, D, fun z => ?_⟩
  have := entB_ok h z
  have e : findBy Value.isStrOf es z = (es.toList.find? fun e => Value.isStrOf z e.key).map (·.val) := by
    obtain ⟨l⟩ := es
    unfold findBy
    rw [List.find?_toArray]
  rw [e]
  exact this
section
variable {X : Cx} {L : Pl} {B : Bo} {a b : Expr} {ma mb : DE} {pos : Pos}
/-- x in t, t a dict of the text at ad -/
def inK (ad : Addr) (kvs : List (Str × D)) (f : Bool → Bool) : P2
  | .str z, .opq (.ref p), Q => p = ad ∧ Q (.bl (f (kvs.lookup z).isSome))
  | _, _, _ => False
theorem inK_mo {ad : Addr} {kvs : List (Str × D)} {f : Bool → Bool} : MoO (pu (inK ad kvs f)) := fun O x y Q Q' h z => by
  dsimp only [pu] at z ⊢; unfold inK at z ⊢
  split at z
  · exact ⟨z.1, h _ z.2⟩
  · exact z
theorem find_some {K : PySem.W.Frag} {w : World} {ad : Addr} {kvs : List (Str × D)} {es : Array DictEntry} {z : Str} (h : match kvs.lookup z with
    | some d => ∃ v u, scV d = some v ∧ findBy Value.isStrOf es z = some u ∧ RelV v u
    | none => findBy Value.isStrOf es z = none) : (findBy Value.isStrOf es z).isSome = (kvs.lookup z).isSome := by
  cases e : kvs.lookup z with
  | none => rw [e] at h; rw [h]; rfl
  | some d => rw [e] at h; obtain ⟨v, u, _, h, _⟩ := h; rw [h]; rfl
theorem od_inK {ad : Addr} {kvs : List (Str × D)} (T : TabK X.K X.w ad kvs) : OpD X B (compareOp .In) (pu (inK ad kvs id)) := by
  obtain ⟨es, n, KD, hf⟩ := T.ex
  refine ⟨inK_mo, fun x y H Q => ∃ z, x = .str z ∧ y = .ref ad ∧ Q (.bl (kvs.lookup z).isSome) H, ?_, fun O G H x y a b Q gd r1 r2 q => ?_⟩
  · intro pins s σ H x y v u Q I rx ry h
    obtain ⟨z, rfl, rfl, q⟩ := h
    obtain ⟨t, rfl⟩ := rx
    cases ry
    refine wpAny_in_of (PySem.strKind_is X.prog X.w z t) KD.low (PySem.W.mapOf_K (prog := X.prog) I.kIn KD.at_ KD.lit) ?_
    rw [find_some (K := X.K) (w := X.w) (ad := ad) (hf z)]
    exact ⟨.bl _, H, I.tok _, rfl, q⟩
  · dsimp only [pu] at q; unfold inK at q
    split at q
    · obtain ⟨rfl, q⟩ := q
      cases r1
      cases r2
      exact ⟨_, rfl, rfl, q _ _ _ (Step.refl gd) (.bl _)⟩
    · exact q.elim
theorem od_notinK {ad : Addr} {kvs : List (Str × D)} (T : TabK X.K X.w ad kvs) : OpD X B (compareOp .NotIn) (pu (inK ad kvs not)) := by
  obtain ⟨es, n, KD, hf⟩ := T.ex
  refine ⟨inK_mo, fun x y H Q => ∃ z, x = .str z ∧ y = .ref ad ∧ Q (.bl (!(kvs.lookup z).isSome)) H, ?_, fun O G H x y a b Q gd r1 r2 q => ?_⟩
  · intro pins s σ H x y v u Q I rx ry h
    obtain ⟨z, rfl, rfl, q⟩ := h
    obtain ⟨t, rfl⟩ := rx
    cases ry
    refine wpAny_notIn_of (PySem.strKind_is X.prog X.w z t) KD.low (PySem.W.mapOf_K (prog := X.prog) I.kIn KD.at_ KD.lit) ?_
    rw [find_some (K := X.K) (w := X.w) (ad := ad) (hf z)]
    exact ⟨.bl _, H, I.tok _, rfl, q⟩
  · dsimp only [pu] at q; unfold inK at q
    split at q
    · obtain ⟨rfl, q⟩ := q
      cases r1
      cases r2
      exact ⟨_, rfl, rfl, q _ _ _ (Step.refl gd) (.bl _)⟩
    · exact q.elim
/-- t[x] -/
def ixK (ad : Addr) (kvs : List (Str × D)) : P2
  | .opq (.ref p), .str z, Q => p = ad ∧ match kvs.lookup z with
    | some d => Q d
    | none => False
  | _, _, _ => False
theorem d_ixK {ad : Addr} {kvs : List (Str × D)} (T : TabK X.K X.w ad kvs) (ha : DPE X L a ma) (hb : DPE X L b mb) (hs : NoSl b) : DPE X L (.Subscript a b pos) (dOp (pu (ixK ad kvs)) ma mb) := by
  obtain ⟨es, n, KD, hf⟩ := T.ex
  have mo : MoO (pu (ixK ad kvs)) := fun O x y Q Q' h z => by
    dsimp only [pu] at z ⊢; unfold ixK at z ⊢
    split at z
    · refine ⟨z.1, ?_⟩
      obtain ⟨_, z⟩ := z
      split at z
      · exact h _ z
      · exact z
    · exact z
  have hP : PE X (.Subscript a b pos) (tOp (fun x y H Q => ∃ z d v, x = .ref ad ∧ y = .str z ∧ kvs.lookup z = some d ∧ scV d = some v ∧ Q v H) (up X.K L.B L.W ma) (up X.K L.B L.W mb)) := by
    refine ⟨fun pins s σ H Q I h => ?_⟩
    refine subD_of PySem.F.slot_dict_getitem.lookup hs (thn (ha.run.run pins s σ H _ I h) fun u s1 ⟨x, H1, I1, rx, q1⟩ => thn (hb.run.run pins s1 σ H1 _ I1 q1) fun iv s2 ⟨y, H2, I2, ry, z, d, v, ex, ey, el, ev, q2⟩ => ?_)
    subst ex ey
    obtain rfl : u = Value.ref ad := rx
    obtain ⟨t, rfl⟩ := ry
    have hz := hf z
    rw [el] at hz
    obtain ⟨v', u, e1, e2, e3⟩ := hz
    rw [ev] at e1; cases e1
    exact ⟨kd_type KD I2, wpAny_getItem_of (PySem.strKind_is X.prog X.w z t) (PySem.W.mapOf_K (prog := X.prog) I2.kIn KD.at_ KD.lit) e2 ⟨v, H2, I2.tok _, e3, q2⟩⟩
  have hrun : RunO X.K L.B (fun x y H Q => ∃ z d v, x = .ref ad ∧ y = .str z ∧ kvs.lookup z = some d ∧ scV d = some v ∧ Q v H) (pu (ixK ad kvs)) := fun O G H x y a b Q gd r1 r2 q => by
    dsimp only [pu] at q; unfold ixK at q
    split at q
    · rename_i p z
      obtain ⟨rfl, q⟩ := q
      cases r1
      cases r2
      have hz := hf z
      cases ed : kvs.lookup z with
      | none => rw [ed] at q; exact q.elim
      | some d =>
        rw [ed] at q hz
        obtain ⟨v, u, e1, _⟩ := hz
        exact ⟨z, d, v, rfl, rfl, ed, e1, q _ _ _ (Step.refl gd) (scV_rp e1)⟩
    · exact q.elim
  exact ⟨mo_op mo ha.mo hb.mo, pe_imp hP fun σ H Q q => run_op hrun mo ha.mo hb.mo q⟩
/-- a dict of the text, by its name -/
theorem d_gdict {x : Str} {ad : Addr} (hg : Gl X x) (hm : X.mg x = some (.ref ad)) (hd : (x == ("__debug__" : Str)) = false) : DPE X L (.Name x pos) (dC (.opq (.ref ad))) := d_c (v := .ref ad) (pe_glob hg hm rfl hd) fun _ => .opq _
def itemsB : List Value → List D → Bool
  | [], [] => true
  | u :: us, d :: ds => (match scV d with
    | some v => He.relB v u
    | none => false) && itemsB us ds
  | _, _ => false
def gtupB (K : PySem.W.Frag) (a : Addr) (ds : List D) : Bool := match K.lookup a with
  | some ⟨.type c, _, .seq its _, _⟩ => decide (c = "tuple") && (decide (its.size ≤ sizeLine) && itemsB its.toList ds)
  | _ => false
theorem itemsB_ok {K : PySem.W.Frag} {G : Hp} : ∀ {us : List Value} {ds : List D}, itemsB us ds = true → ∃ vs, Vals vs us ∧ RpL K G vs ds
  | [], [], _ => ⟨[], .nil, .nil⟩
  | u :: us, d :: ds, h => by
    unfold itemsB at h
    simp only [Bool.and_eq_true] at h
    obtain ⟨h1, h2⟩ := h
    obtain ⟨vs, a, b⟩ := itemsB_ok (K := K) (G := G) h2
    split at h1
    · rename_i v ev
      exact ⟨v :: vs, .cons (He.relB_ok h1) a, .cons (scV_rp ev) b⟩
    · cases h1
  | [], _ :: _, h => by cases h
  | _ :: _, [], h => by cases h
theorem gtup_rp {K : PySem.W.Frag} {a : Addr} {ds : List D} (h : gtupB K a ds = true) (G : Hp) : Rp K G (.ref a) (.tup ds) := by
  unfold gtupB at h
  split at h
  · rename_i c od its n sl e
    simp only [Bool.and_eq_true] at h
    obtain ⟨h1, h2, h3⟩ := h
    have ec : c = "tuple" := of_decide_eq_true h1
    subst ec
    obtain ⟨vs, a1, b1⟩ := itemsB_ok (K := K) (G := G) h3
    exact .tup (.inr ⟨_, its, n, e, rfl, rfl, of_decide_eq_true h2, a1⟩) b1
  · cases h
theorem d_gtup {x : Str} {ad : Addr} {ds : List D} (h : gtupB X.K ad ds = true) (hg : Gl X x) (hm : X.mg x = some (.ref ad)) (hd : (x == ("__debug__" : Str)) = false) : DPE X L (.Name x pos) (dC (.tup ds)) := d_c (v := .ref ad) (pe_glob hg hm rfl hd) fun G => gtup_rp h G
end
end EV
set_option Elab.async false
set_option linter.all false
set_option maxRecDepth 100000
set_option maxHeartbeats 0
namespace LW
open PySem PySem.Spec PyProof.Rows L2 EV PySem.XO PySem.W
abbrev FnP (K : PySem.W.Frag) (x : Str) (st : Stmt) (f : Addr) (fd : FuncData) : Prop := FunD K x x (defArgs st) (defBody st) (defScope st) [] [] f fd
theorem fun_of {K : PySem.W.Frag} {x q : Str} {st : Stmt} {kws : List (Str × V)} {f : Addr} {fd : FuncData} (F : FunD K x q (defArgs st) (defBody st) (defScope st) [] kws f fd) : Fun K x q st f fd := by
  obtain ⟨oc, od, dV, kV, doc, pm, an, cdv, ct, osl, e, lk, hcd, hD, hK⟩ := F.ex
  rcases hD with ⟨_, rfl⟩ | ⟨e, _⟩
  · exact ⟨⟨oc, od, kV, doc, pm, an, cdv, ct, osl, e, lk, hcd⟩, F.kp⟩
  · exact absurd rfl e
theorem gf_of {K : PySem.W.Frag} {mg : Str → Option Value} {x : Str} {st : Stmt} {f : Addr} {fd : FuncData} {ps : List Str} (F : FnP K x st f fd) (m : mg x = some (.ref f)) (b : Binds K fd ps []) : Gf K mg x f fd ps := ⟨m, F.kp, b⟩
def dd (x : Str) (st : Stmt) : He.DefD := ⟨(x, none), x, x, defArgs st, defBody st, defScope st, [], []⟩
def dm (c x : Str) (q : Str) (st : Stmt) : He.DefD := ⟨(c, some x), x, q, defArgs st, defBody st, defScope st, [], []⟩
def dmk (c x : Str) (q : Str) (st : Stmt) (kws : List (Str × He.Dv)) : He.DefD := ⟨(c, some x), x, q, defArgs st, defBody st, defScope st, [], kws⟩
def formsTd : List (Str × D) := [("read", .str "c"), ("zero", .str "c"), ("top", .str "c"), ("up", .str "c"), ("copy", .str "cc"), ("same", .str "ccj"), ("less", .str "ccj"), ("has", .str "tcj"), ("link", .str "tccj"), ("jump", .str "j"), ("refuse", .str ""), ("end", .str "")]
def placesTd : List (Str × D) := [("has", .int 1), ("link", .int 2)]
def lastTd : List D := [.str "jump", .str "refuse", .str "end"]
def ts : List He.Tab := [(fun K => He.ga K "FORMS", formsTd.map (·.1)), (fun K => He.ga K "PLACES", placesTd.map (·.1))]
def tf : List He.Defn := [("law", none)]
def sm0 : He5.DefA := ⟨fun K => He5.wf K (He.ga K "Reader") "staticmethod" "read", "read", "Reader.read", defArgs (clsS 28 7), defBody (clsS 28 7), defScope (clsS 28 7), [], []⟩
def sm : List He5.DefA := [sm0]
def exT (K : Frag) : Bool := exK K && (smB K (He.ga K "Reader") "read" && ((sm0).ok K && (tabB K (He.ga K "FORMS") formsTd && (tabB K (He.ga K "PLACES") placesTd && (gtupB K (He.ga K "LAST") lastTd && (decide (PySem.W.exmOne K (.ref (He.ga K "InvalidStep")) (.ref (He.ga K "InvalidStep")) = some true)))))))
def fn : List He.DefD := [dd "_law_box" (topS 32), dd "_law_pull" (topS 33), dd "_law_of" (topS 34), dd "_law_words" (topS 35), dd "_law_same" (topS 36), dd "_law_field" (topS 37), dd "_law_got" (topS 38), dd "_law_all_got" (topS 39), dd "_law_step" (topS 40), dd "_law_plan" (topS 41), dd "_law_spoilt" (topS 42), dd "_law_reader_lines" (topS 43), dd "law" (topS 44), dd "is_name" (topS 15), dd "is_number" (topS 16), dd "is_step" (topS 26), dd "check_rows" (topS 27), dd "number_in" (topS 17), dd "read_cells" (topS 29), dd "read_step" (topS 30), dmk "Reader" "__init__" "Reader.__init__" (clsS 28 1) [("inputs", .int 0)]]
def fa : List He.Fa := ([.glo "_law_box", .glo "_law_pull", .glo "_law_of", .glo "_law_words", .glo "_law_same", .glo "_law_field", .glo "_law_got", .glo "_law_all_got", .glo "_law_step", .glo "_law_plan", .glo "_law_spoilt", .glo "_law_reader_lines"] : List He.Fa) ++ ([.glo "law", .glo "is_name", .glo "is_number", .glo "is_step", .glo "check_rows", .glo "number_in", .glo "read_cells", .glo "read_step", .glo "OnceError", .glo "Missing", .glo "NothingLeft", .glo "InvalidNumber"] : List He.Fa) ++ ([.glo "InvalidText", .glo "TooMany", .glo "InvalidCell", .glo "InvalidStep", .glo "Reader", .glo "FORMS", .glo "PLACES", .glo "LAST", .free "isinstance", .free "str", .free "len", .free "all"] : List He.Fa) ++ ([.free "int", .free "bool", .free "list", .free "tuple", .free "zip", .free "abs", .free "super", .free "range", .free "enumerate", .free "min", .int "LONGEST_NAME" 6, .int "MOST_CELLS" 300] : List He.Fa) ++ ([.int "MOST_ROWS" 10000, .int "MOST_RANGE" 10000, .int "MOST_DIGITS" 15, .str "LETTERS" "abcdefghijklmnopqrstuvwxyz", .str "DIGITS" "0123456789", .cls "Reader", .mkr "Reader", .noat "Reader" "cells", .noat "Reader" "rows", .noat "Reader" "inputs"] : List He.Fa)
abbrev Rw : PySem.W.OpenRow := PySem.W.OpenLaw.row PySem.Challenge.rw_oncethrough_k33_wrong_reader_pages
abbrev hk : PySem.W.Hook := hookS 6 fa fn ts inL tf exT sm
def ob (s : PySem.W.SharedT) : AlS := obsS 6 fa fn ts inL tf exT sm (HandSHeadRun.getT s)
theorem ob_eq (s : PySem.W.SharedT) : ob s = hk.obs s.abs := obsS_eq (HandSHeadRun.getT_eq s)
def loose : List PySem.Str := (["_wall", "OnceError", "Missing", "NothingLeft", "InvalidNumber", "InvalidText", "TooMany", "InvalidCell", "InvalidStep", "LETTERS", "DIGITS", "LONGEST_NAME"] : List PySem.Str) ++ (["MOST_DIGITS", "is_name", "is_number", "number_in", "joined", "MOST_CELLS", "MOST_ROWS", "MOST_RANGE", "FORMS", "PLACES", "LAST", "is_step"] : List PySem.Str) ++ (["check_rows", "Reader", "read_cells", "read_step", "_law_box", "_law_pull", "_law_of", "_law_words", "_law_same", "_law_field", "_law_got", "_law_all_got"] : List PySem.Str) ++ (["_law_step", "_law_plan", "_law_spoilt", "_law_reader_lines"] : List PySem.Str)
theorem map_both {α β γ δ : Type} {x : Option α} {f : α → β} {f2 : α → γ} {g : α → δ} {a : β} {b : γ} {c : δ} (h1 : x.map (fun s => (f s, f2 s)) = some (a, b)) (h2 : x.map g = some c) : x.map (fun s => (f s, f2 s, g s)) = some (a, b, c) := by
  cases x with
  | none => cases h1
  | some s =>
    have e1 := Option.some.inj h1
    have e2 := Option.some.inj h2
    have e3 := congrArg Prod.fst e1
    have e4 := congrArg Prod.snd e1
    show some (f s, f2 s, g s) = some (a, b, c)
    rw [show f s = a from e3, show f2 s = b from e4, show g s = c from e2]
theorem lkRF (w : World) (os : OsState) : (HandSHeadRun.endF (HandSHeadRun.stepQ (HandSHeadRun.denQ HandSHeadRun.tabQ) Rw.prog (w.withFollow "special-get-raises" false)) 20000 Rw.prog (w.withFollow "special-get-raises" false) os).map (fun s => (HandSHeadRun.looksF Rw.prog (boot_heap (w.withFollow "special-get-raises" false).params) s.abs, HandSHeadRun.seenQ (PySem.W.view Rw.prog [44]) loose (importedModules Rw.prog.main.body) (fun s => xlAt (PySem.W.view Rw.prog [44]) [] s && recOk Rw.toRowW.records s) s.abs)) = some (true, openGood (PySem.W.view Rw.prog [44]) loose) := by
  kernel_rfl
theorem obRF (w : World) (os : OsState) : (HandSHeadRun.endF (HandSHeadRun.stepQ (HandSHeadRun.denQ HandSHeadRun.tabQ) Rw.prog (w.withFollow "special-get-raises" false)) 20000 Rw.prog (w.withFollow "special-get-raises" false) os).map ob = some (hk.val (w.withFollow "special-get-raises" false)) := by
  kernel_rfl
theorem runZF (w : World) : HandSHeadRun.RunEq Rw (PySem.W.view Rw.prog [44]) hk ob 20000 loose (w.withFollow "special-get-raises" false) := fun os => map_both (lkRF w os) (obRF w os)
theorem lkRT (w : World) (os : OsState) : (HandSHeadRun.endF (HandSHeadRun.stepQ (HandSHeadRun.denQ HandSHeadRun.tabQ) Rw.prog (w.withFollow "special-get-raises" true)) 20000 Rw.prog (w.withFollow "special-get-raises" true) os).map (fun s => (HandSHeadRun.looksF Rw.prog (boot_heap (w.withFollow "special-get-raises" true).params) s.abs, HandSHeadRun.seenQ (PySem.W.view Rw.prog [44]) loose (importedModules Rw.prog.main.body) (fun s => xlAt (PySem.W.view Rw.prog [44]) [] s && recOk Rw.toRowW.records s) s.abs)) = some (true, openGood (PySem.W.view Rw.prog [44]) loose) := by
  kernel_rfl
theorem obRT (w : World) (os : OsState) : (HandSHeadRun.endF (HandSHeadRun.stepQ (HandSHeadRun.denQ HandSHeadRun.tabQ) Rw.prog (w.withFollow "special-get-raises" true)) 20000 Rw.prog (w.withFollow "special-get-raises" true) os).map ob = some (hk.val (w.withFollow "special-get-raises" true)) := by
  kernel_rfl
theorem runZT (w : World) : HandSHeadRun.RunEq Rw (PySem.W.view Rw.prog [44]) hk ob 20000 loose (w.withFollow "special-get-raises" true) := fun os => map_both (lkRT w os) (obRT w os)
theorem runZB (b : Bool) (w : World) : HandSHeadRun.RunEq Rw (PySem.W.view Rw.prog [44]) hk ob 20000 loose (w.withFollow "special-get-raises" b) := by
  cases b
  · exact runZF w
  · exact runZT w
theorem run (w : World) : HandSHeadRun.RunEq Rw (PySem.W.view Rw.prog [44]) hk ob 20000 loose w := by
  have h := runZB (w.params.followText "special-get-raises") w
  rwa [World.withFollow_self] at h
end LW
set_option Elab.async false
set_option linter.all false
set_option maxRecDepth 100000
set_option maxHeartbeats 4000000
namespace LW
open PySem PySem.Spec PyProof.Rows L2 EV
abbrev bx (l : Addr) (i r m c : Int) : HO := .lst [.ref l, .int i, .int r, .int m, .int c]
theorem at0 {l : Addr} {i r m c : Int} : atI [V.ref l, .int i, .int r, .int m, .int c] 0 = some (.ref l) := rfl
theorem at1 {l : Addr} {i r m c : Int} : atI [V.ref l, .int i, .int r, .int m, .int c] 1 = some (.int i) := rfl
theorem at2 {l : Addr} {i r m c : Int} : atI [V.ref l, .int i, .int r, .int m, .int c] 2 = some (.int r) := rfl
theorem at3 {l : Addr} {i r m c : Int} : atI [V.ref l, .int i, .int r, .int m, .int c] 3 = some (.int m) := rfl
theorem at4 {l : Addr} {i r m c : Int} : atI [V.ref l, .int i, .int r, .int m, .int c] 4 = some (.int c) := rfl
def pullS : DSp := fun ds O Q _ => ∃ n : Int, ds = [.int n] ∧ 0 < n ∧ n < 1073741824 ∧ ∀ k, 0 ≤ k → k < n → Q (.int k) O
section
variable {P : Program} {w : World} {K : PySem.W.Frag} {mg : Str → Option Value} {base : Heap}
theorem ok_pull {f : Addr} {fd : FuncData} (F : Fun K "_law_pull" "_law_pull" s_pull f fd) (mi : mg "int" = none) (ml : mg "len" = none) (ma : mg "abs" = none) : FnOk P w K mg base CX0 1 f fd ["_law_box_here", "_law_many"] (spB K pullS) := by
  refine F.ok sc_pull (fun vs H Q E ⟨b, l, T, ws, G, O, ds, ev, g, r, Q0, E0, h0, _⟩ => ?_) (fun cdv A outer s H vs Q E hr ⟨b, l, T, ws, G, O, ds, ev, g, r, Q0, E0, h0, hq, hx⟩ => ?_)
  · obtain ⟨n, rfl, _⟩ := h0
    rw [ev, List.length_cons, r.length]
    rfl
  · obtain ⟨n, rfl, n0, n1, h0⟩ := h0
    subst ev
    cases r with
    | cons r1 r2 =>
    cases r2
    cases r1
    obtain ⟨hid, ⟨ns, i, r, m, c, hb, hl, i0, r0, m0, m1, c0⟩, htab, htv⟩ := g.box b l T rfl
    have nlb : ∀ (o : HO), SqL K (upd H b o) l (ns.map V.int) := fun o => by
      refine Sub.sqL (fun a u e => ?_) hl
      rw [upd_ne (fun z => by rw [z, hid] at e; cases e)]
      exact g.sub a u e
    have fin : ∀ (k i r m c : Int), 0 ≤ k → k < n → 0 ≤ i → 0 ≤ r → 0 ≤ m → m < 2147483587 → 0 ≤ c → Q (.int k) (upd H b (bx l i r m c)) := fun k i r m c k0 k1 i0 r0 m0 m1 c0 => by
      refine hq (.int k) O (h0 k k0 k1) (.int k) G _ ⟨Sub.refl G, ⟨fun a o e => ?_, fun b' l' T' e => ?_, g.amb, fun p d e => ?_⟩, fun a o e ne _ => ?_, fun _ _ _ z n => ⟨z, n⟩, upd_still⟩ (.int k)
      · rw [upd_ne (fun z => by rw [z, hid] at e; cases e)]
        exact g.sub a o e
      · cases e
        refine ⟨hid, ⟨ns, i, r, m, c, upd_same, hl, i0, r0, m0, m1, c0⟩, fun p hp => ?_, htv⟩
        obtain ⟨ps, a1, a2, a3⟩ := htab p hp
        have ne : ∀ {a : Addr} {o : HO}, H a = some o → (∀ xs, o ≠ .lst xs) → upd H b (bx l i r m c) a = some o := fun {a o} e n => by
          rw [upd_ne (fun z => by rw [z, hb] at e; cases e; exact n _ rfl)]; exact e
        refine ⟨ps, ne a1 (fun xs z => by cases z), a2, fun pos cv hc => ?_⟩
        obtain ⟨c0, e1, e2⟩ := a3 pos cv hc
        exact ⟨c0, e1, e2⟩
      · obtain ⟨z1, z2, z3⟩ := g.own p d e
        exact ⟨z1, z2, z3.mono (Sub.refl _) fun o h => by rw [upd_ne (fun z => z2 ⟨b, l, T, rfl, .inl z⟩)]; exact h⟩
      · rw [upd_ne (fun z => ne ⟨b, l, T, rfl, .inl z⟩)]
        exact e
    refine ⟨_, pss_cons (ps_asg (pe_op op_add (pe_ix ix_list (pv 0) pe_int (fun _ _ => rfl)) pe_int) (pg_sub (pv 0) pe_int set_list))
      (C8.pss_cut (ps_if (PW.pt (pw_and (pt_cmpR op_eq (pe_ix ix_list (pv 0) pe_int (fun _ _ => rfl)) pe_int (nomark _)) (pw_and1 (pt_cmpR op_lt (pe_ix ix_list (pv 0) pe_int (fun _ _ => rfl)) (pe_callB call_len rfl ml boot_len (pa_cons (pe_ix ix_list (pv 0) pe_int (fun _ _ => rfl)) pa_nil)) (nomark _)))))
        (pss_cons (ps_set (i := 2) sc_pull.nd rfl (.inl rfl) (pe_ix ix_list (pe_ix ix_list (pv 0) pe_int (fun _ _ => rfl)) (pe_ix ix_list (pv 0) pe_int (fun _ _ => rfl)) (fun _ _ => rfl)))
        (pss_cons (ps_asg (pe_op op_add (pe_ix ix_list (pv 0) pe_int (fun _ _ => rfl)) pe_int) (pg_sub (pv 0) pe_int set_list))
        (pss_one (ps_if (pt_cmpR op_ge (pe_callB call_abs rfl ma boot_abs (pa_cons (pv 2) pa_nil)) (pe_op op_pow pe_int pe_int) (nomark _))
          (pss_one (ps_asg (pe_callB call_abs rfl ma boot_abs (pa_cons (pv 2) pa_nil)) (pg_sub (pv 0) pe_int set_list)))
          (pss_one (ps_asg (pe_op op_mod (pe_callTy call_int1 rfl mi boot_int (pa_cons (pe_op op_add (pe_op op_add (pe_op op_mul (pe_ix ix_list (pv 0) pe_int (fun _ _ => rfl)) pe_int) (pe_op op_mul (pe_op op_mod (pe_callTy call_int1 rfl mi boot_int (pa_cons (pv 2) pa_nil)) pe_int) pe_int)) pe_int) pa_nil)) pe_int) (pg_sub (pv 0) pe_int set_list)))))))
        pss_nil)
      (pss_cons (ps_if (pt_cmpR op_gt (pe_ix ix_list (pv 0) pe_int (fun _ _ => rfl)) pe_int (nomark _))
        (pss_cons (ps_set (i := 3) sc_pull.nd rfl (.inl rfl) (pe_op op_mod (pe_callTy call_int1 rfl mi boot_int (pa_cons (pe_ix ix_list (pv 0) pe_int (fun _ _ => rfl)) pa_nil)) (pv 1)))
        (pss_cons (ps_asg (pe_op op_fdiv (pe_ix ix_list (pv 0) pe_int (fun _ _ => rfl)) (pv 1)) (pg_sub (pv 0) pe_int set_list))
        (pss_one (ps_ret (pv 3)))))
        pss_nil)
      (pss_cons (ps_set (i := 4) sc_pull.nd rfl (.inl rfl) (pe_op op_mod (pe_callTy call_int1 rfl mi boot_int (pa_cons (pe_op op_add (pe_op op_mul (pe_ix ix_list (pv 0) pe_int (fun _ _ => rfl)) (pe_ix ix_list (pv 0) pe_int (fun _ _ => rfl))) (pe_op op_mul (pe_ix ix_list (pv 0) pe_int (fun _ _ => rfl)) pe_int)) pa_nil)) pe_int))
      (pss_cons (ps_asg (pe_op op_mod (pe_callTy call_int1 rfl mi boot_int (pa_cons (pe_op op_add (pe_op op_add (pe_op op_mul (pv 4) pe_int) (pe_op op_mul (pe_ix ix_list (pv 0) pe_int (fun _ _ => rfl)) pe_int)) pe_int) pa_nil)) pe_int) (pg_sub (pv 0) pe_int set_list))
      (pss_one (ps_ret (pe_op op_mod (pe_callTy call_int1 rfl mi boot_int (pa_cons (pe_op op_fdiv (pe_ix ix_list (pv 0) pe_int (fun _ _ => rfl)) pe_int) pa_nil)) (pv 1)))))))), ?_⟩
    have sq : ∀ {H' : Hp} {i r m c : Int}, H' = upd H b (bx l i r m c) → SqL K H' b [.ref l, .int i, .int r, .int m, .int c] := fun e => by
      rw [e]; exact .inl (.inl upd_same)
    -- box[4] = box[4] + 1
    refine ⟨.ref b, rfl, b, _, 4, _, rfl, rfl, .inl (.inl hb), at4, _, _, rfl, rfl, .ref b, rfl, b, _, 4, 4, rfl, rfl, hb, rfl, ?_⟩
    rw [show [V.ref l, .int i, .int r, .int m, .int c].set 4 (.int (c + 1)) = [V.ref l, .int i, .int r, .int m, .int (c + 1)] from rfl]
    refine ⟨fun σ' H' => ∃ (y2 : Option V) (i r m c : Int), σ' = [some (.ref b), some (.int n), y2, none, none] ∧ H' = upd H b (bx l i r m c) ∧ 0 ≤ i ∧ 0 ≤ r ∧ 0 ≤ m ∧ m < 2147483587 ∧ 0 ≤ c, ?_, ?_⟩
    · -- if box[2] == 0 and box[1] < len(box[0])
      have q0 : SqL K (upd H b (bx l i r m (c + 1))) b [.ref l, .int i, .int r, .int m, .int (c + 1)] := sq rfl
      have stop : ∃ (y2 : Option V) (i' r' m' c' : Int), [some (V.ref b), some (V.int n), none, none, none] = [some (.ref b), some (.int n), y2, none, none] ∧ upd H b (bx l i r m (c + 1)) = upd H b (bx l i' r' m' c') ∧ 0 ≤ i' ∧ 0 ≤ r' ∧ 0 ≤ m' ∧ m' < 2147483587 ∧ 0 ≤ c' :=
        ⟨none, i, r, m, c + 1, rfl, rfl, i0, r0, m0, m1, by omega⟩
      refine ⟨.ref b, rfl, b, _, 2, _, rfl, rfl, q0, at2, rfl, _, rfl, ite2 (fun e1 => ?_) (fun e1 => iteF stop)⟩
      refine ⟨.ref b, rfl, b, _, 1, _, rfl, rfl, q0, at1, .ref b, rfl, b, _, 0, _, rfl, rfl, q0, at0, .ref l, _, rfl, .inl ⟨_, nlb _, rfl⟩, _, _, rfl, rfl, _, rfl, ite2 (fun e2 => ?_) (fun e2 => stop)⟩
      have e2 : i < ((ns.map V.int).length : Int) := of_decide_eq_true e2
      rw [List.length_map] at e2
      have hi : i.toNat < ns.length := by omega
      have gi : (ns.map V.int)[i.toNat]? = some (.int ns[i.toNat]) := by
        rw [List.getElem?_map, List.getElem?_eq_getElem hi]; rfl
      have ai : atI (ns.map V.int) i = some (.int ns[i.toNat]) := by
        have := atI_nat gi
        rwa [Int.toNat_of_nonneg i0] at this
      -- cell = box[0][box[1]]; box[1] = box[1] + 1
      refine ⟨.ref b, rfl, b, _, 0, _, rfl, rfl, q0, at0, .ref b, rfl, b, _, 1, _, rfl, rfl, q0, at1, l, _, i, _, rfl, rfl, nlb _, ai, ?_⟩
      refine ⟨.ref b, rfl, b, _, 1, _, rfl, rfl, q0, at1, _, _, rfl, rfl, .ref b, rfl, b, _, 1, 1, rfl, rfl, upd_same, rfl, ?_⟩
      rw [upd_upd, show [V.ref l, .int i, .int r, .int m, .int (c + 1)].set 1 (.int (i + 1)) = [V.ref l, .int (i + 1), .int r, .int m, .int (c + 1)] from rfl]
      have q1 : SqL K (upd H b (bx l (i + 1) r m (c + 1))) b [.ref l, .int (i + 1), .int r, .int m, .int (c + 1)] := sq rfl
      refine ⟨.int ns[i.toNat], rfl, _, rfl, _, _, rfl, rfl, ⟨by decide, by decide, by decide⟩, _, _, rfl, rfl, _, rfl, ite2 (fun e3 => ?_) (fun e3 => ?_)⟩
      · refine ⟨.int ns[i.toNat], rfl, _, rfl, .ref b, rfl, b, _, 2, 2, rfl, rfl, upd_same, rfl, ?_⟩
        rw [upd_upd]
        refine ⟨some (.int ns[i.toNat]), i + 1, _, m, c + 1, rfl, rfl, by omega, ?_, m0, m1, by omega⟩
        split <;> omega
      · refine ⟨.ref b, rfl, b, _, 3, _, rfl, rfl, q1, at3, _, _, rfl, rfl, .inr ⟨by decide, by decide⟩, .int ns[i.toNat], rfl, .inl ⟨_, rfl, _, _, rfl, rfl, (by decide : (0 : Int) < 1000003), _, _, rfl, rfl, .inr ⟨by decide, by decide⟩, _, _, rfl, rfl, _, _, rfl, rfl, .inl ⟨_, rfl, _, _, rfl, rfl, (by decide : (0 : Int) < 2147483587), .ref b, rfl, b, _, 3, 3, rfl, rfl, upd_same, rfl, ?_⟩⟩⟩
        rw [upd_upd]
        exact ⟨some (.int ns[i.toNat]), i + 1, r, _, c + 1, rfl, rfl, by omega, r0, Int.emod_nonneg _ (by decide), Int.emod_lt_of_pos _ (by decide), by omega⟩
    · rintro σ' H' ⟨y2, i, r, m, c, rfl, rfl, i0, r0, m0, m1, c0⟩
      have q0 : SqL K (upd H b (bx l i r m c)) b [.ref l, .int i, .int r, .int m, .int c] := sq rfl
      refine ⟨.ref b, rfl, b, _, 2, _, rfl, rfl, q0, at2, _, _, rfl, rfl, _, rfl, ite2 (fun e1 => ?_) (fun e1 => ?_)⟩
      · refine ⟨.ref b, rfl, b, _, 2, _, rfl, rfl, q0, at2, .inl ⟨_, rfl, .int n, rfl, _, _, rfl, rfl, n0, ?_⟩⟩
        refine ⟨.ref b, rfl, b, _, 2, _, rfl, rfl, q0, at2, .int n, rfl, _, _, rfl, rfl, ⟨n0, n1⟩, .ref b, rfl, b, _, 2, 2, rfl, rfl, upd_same, rfl, .int (r % n), rfl, ?_⟩
        rw [upd_upd]
        exact fin _ i (r / n) m c (Int.emod_nonneg _ (by omega)) (Int.emod_lt_of_pos _ n0) i0 (Int.ediv_nonneg r0 (by omega)) m0 m1 c0
      · refine ⟨.ref b, rfl, b, _, 3, _, rfl, rfl, q0, at3, .ref b, rfl, b, _, 3, _, rfl, rfl, q0, at3, _, _, rfl, rfl, .inl ⟨by omega, by omega⟩, .ref b, rfl, b, _, 4, _, rfl, rfl, q0, at4, _, _, rfl, rfl, .inr ⟨by decide, by decide⟩, _, _, rfl, rfl, .inl ⟨_, rfl, _, _, rfl, rfl, (by decide : (0 : Int) < 2147483543), ?_⟩⟩
        refine ⟨_, rfl, _, _, rfl, rfl, .inr ⟨by decide, by decide⟩, .ref b, rfl, b, _, 3, _, rfl, rfl, q0, at3, _, _, rfl, rfl, .inr ⟨by decide, by decide⟩, _, _, rfl, rfl, _, _, rfl, rfl, .inl ⟨_, rfl, _, _, rfl, rfl, (by decide : (0 : Int) < 2147483587), .ref b, rfl, b, _, 3, 3, rfl, rfl, upd_same, rfl, ?_⟩⟩
        rw [upd_upd]
        refine ⟨.ref b, rfl, b, _, 3, _, rfl, rfl, sq rfl, at3, _, _, rfl, rfl, ⟨by decide, by decide⟩, .inl ⟨_, rfl, .int n, rfl, _, _, rfl, rfl, n0, ?_⟩⟩
        exact fin _ i r _ c (Int.emod_nonneg _ (by omega)) (Int.emod_lt_of_pos _ n0) i0 r0 (Int.emod_nonneg _ (by decide)) (Int.emod_lt_of_pos _ (by decide)) c0
end
end LW
set_option Elab.async false
set_option linter.all false
set_option maxRecDepth 100000
set_option maxHeartbeats 4000000
namespace LW
open PySem PySem.Spec PyProof.Rows L2 EV
theorem hu1 {A : Around} {k : Nat} (hr : Room k A) : A.units + 65 < cLine := by have := hr.un; omega
theorem pass0A {X : Cx} {σ : L2.St} {E : XK} : PassesAt CX0 X σ E := fun _ _ _ _ _ _ h => h.elim
abbrev s_of : Stmt := topS 34
abbrev N_of : List Str := ["_law_box_here", "_law_some"]
theorem sc_of : FnScope N_of ["_law_box_here", "_law_some"] (defScope s_of) := ⟨rfl, rfl, rfl, by decide +kernel, rfl, by decide +kernel, by decide +kernel⟩
def itemsL : D → List D
  | .lst xs => xs
  | .tup xs => xs
  | .str y => charsD y
  | _ => []
def ofS : DSp := fun ds O Q _ => ∃ d, ds = [d] ∧ 0 < (itemsL d).length ∧ (itemsL d).length < 1000000 ∧ ∀ y ∈ itemsL d, Q y O
abbrev s_same : Stmt := topS 36
abbrev N_same : List Str := ["_law_found", "_law_due", "_law_a", "_law_b"]
theorem sc_same : FnScope N_same ["_law_found", "_law_due"] (defScope s_same) := ⟨rfl, rfl, rfl, by decide +kernel, rfl, by decide +kernel, by decide +kernel⟩
mutual
def sameD : D → D → Bool
  | .non, .non => true
  | .bl a, .bl b => decide (a = b)
  | .int a, .int b => decide (a = b)
  | .str a, .str b => decide (a = b)
  | .lst xs, .lst ys => sameL xs ys
  | .tup xs, .tup ys => sameL xs ys
  | _, _ => false
def sameL : List D → List D → Bool
  | [], [] => true
  | x :: xs, y :: ys => sameD x y && sameL xs ys
  | _, _ => false
end
/-- plain data, at most so deep -/
def Plain : Nat → D → Prop
  | _, .non => True
  | _, .bl _ => True
  | _, .int _ => True
  | _, .str _ => True
  | n + 1, .lst xs => xs.length ≤ sizeLine ∧ ∀ x ∈ xs, Plain n x
  | n + 1, .tup xs => xs.length ≤ sizeLine ∧ ∀ x ∈ xs, Plain n x
  | _, _ => False
def sameS (n : Nat) : DSp := fun ds O Q _ => ∃ a b, ds = [a, b] ∧ Plain n a ∧ Plain n b ∧ Q (.bl (sameD a b)) O
theorem Plain.ty {n : Nat} {d : D} (h : Plain n d) : (tyD d).isSome = true := by
  cases d <;> cases n <;> first | rfl | exact h.elim
theorem sameL_len {xs ys : List D} (h : xs.length ≠ ys.length) : sameL xs ys = false := by
  induction xs generalizing ys with
  | nil => cases ys with
    | nil => exact absurd rfl h
    | cons => rfl
  | cons x xs ih => cases ys with
    | nil => rfl
    | cons y ys =>
      simp only [List.length_cons, ne_eq, Nat.add_right_cancel_iff] at h
      simp [sameL, ih h]
theorem sameL_zip {xs ys : List D} (h : xs.length = ys.length) : sameL xs ys = ((List.zip xs ys).all fun p => sameD p.1 p.2) := by
  induction xs generalizing ys with
  | nil => cases ys with
    | nil => rfl
    | cons => cases h
  | cons x xs ih => cases ys with
    | nil => cases h
    | cons y ys =>
      simp only [List.length_cons, Nat.add_right_cancel_iff] at h
      simp [sameL, ih h]
theorem zipL_eq (xs ys : List D) : zipL xs ys = (List.zip xs ys).map fun p => .tup [p.1, p.2] := by
  unfold zipL
  rw [List.zip, List.map_zipWith]
section
variable {P : Program} {w : World} {K : PySem.W.Frag} {mg : Str → Option Value} {base : Heap}
theorem ok_of {f fP : Addr} {fd fdP : FuncData} (F : Fun K "_law_of" "_law_of" s_of f fd) (G_pull : FnOk P w K mg base CX0 1 fP fdP ["_law_box_here", "_law_many"] (spB K pullS)) (T_pull : Gf K mg "_law_pull" fP fdP ["_law_box_here", "_law_many"]) (m_len : mg "len" = none) :
    FnOk P w K mg base CX0 2 f fd ["_law_box_here", "_law_some"] (spB K ofS) := by
  refine fn_box F sc_of (fun ds O Q E h => ?_) (fun cdv A outer s H E b l T hr =>
    (d_sone (d_ret (d_ix (d_var (i := 1) rfl (.inl rfl) (by decide) (by decide)) (d_callX G_pull rfl (hr.mono (by decide)) rfl T_pull.m T_pull.k T_pull.b (fun _ => pass0A) (d_cons (d_var (i := 0) rfl (.inl rfl) (by decide) (by decide)) (d_cons (d_callB cd_len rfl m_len boot_len (d_cons (d_var (i := 1) rfl (.inl rfl) (by decide) (by decide)) d_nil rfl) (by decide) (by decide) rfl rfl) d_nil rfl) rfl) (by decide) rfl rfl) (fun _ _ => rfl))))) (fun b ds O Q E h => ?_) (fun ds O Q E h => h)
  · obtain ⟨d, rfl, _⟩ := h; rfl
  · obtain ⟨d, rfl, h1, h2, q⟩ := h
    rw [show startD N_of [.opq (.ref b), d] = [.sh (.opq (.ref b)), .sh d] from rfl]
    have key : ∀ (xs : List D) (k : Int), 0 ≤ k → k < xs.length → ∃ y, atI xs k = some y ∧ y ∈ xs := fun xs k k0 k1 => by
      have hk : k.toNat < xs.length := by omega
      have e : atI xs ((k.toNat : Nat) : Int) = some xs[k.toNat] := atI_nat (List.getElem?_eq_getElem hk)
      rw [Int.toNat_of_nonneg k0] at e
      exact ⟨_, e, List.getElem_mem hk⟩
    cases d with
    | lst xs =>
      refine ⟨rfl, spM.of ⟨xs.length, rfl, by exact_mod_cast h1, by have : xs.length < 1000000 := h2; omega, fun k k0 k1 => ?_⟩⟩
      obtain ⟨y, e, m⟩ := key xs k k0 k1
      show ixP _ _ _
      simp only [ixP, lk, e]
      exact q y m
    | tup xs =>
      refine ⟨rfl, spM.of ⟨xs.length, rfl, by exact_mod_cast h1, by have : xs.length < 1000000 := h2; omega, fun k k0 k1 => ?_⟩⟩
      obtain ⟨y, e, m⟩ := key xs k k0 k1
      show ixP _ _ _
      simp only [ixP, lk, e]
      exact q y m
    | str z =>
      have hz : (charsD z).length = z.length := by simp [charsD]; rfl
      have h1 : 0 < (charsD z).length := h1
      have h2 : (charsD z).length < 1000000 := h2
      rw [hz] at h1 h2
      have hs : z.length ≤ sizeLine := Nat.le_trans (Nat.le_of_lt h2) (by decide)
      refine ⟨hs, rfl, spM.of ⟨z.length, rfl, by exact_mod_cast h1, by omega, fun k k0 k1 => ⟨hs, ?_⟩⟩⟩
      have hk : k.toNat < z.cps.toList.length := by
        have : z.cps.toList.length = z.length := by simp; rfl
        omega
      have e : atI z.cps.toList ((k.toNat : Nat) : Int) = some z.cps.toList[k.toNat] := atI_nat (List.getElem?_eq_getElem hk)
      rw [Int.toNat_of_nonneg k0] at e
      rw [e]
      exact q _ (List.mem_map.mpr ⟨_, List.getElem_mem hk, rfl⟩)
    | non => cases h1
    | bl => cases h1
    | int => cases h1
    | opq => cases h1
    | dic => cases h1
    | ins => cases h1
    | exc => cases h1
    | lam => cases h1
    | nk => cases h1
theorem ok_same {f : Addr} {fd : FuncData} (F : Fun K "_law_same" "_law_same" s_same f fd) (T_same : Gf K mg "_law_same" f fd ["_law_found", "_law_due"]) (m_isinstance : mg "isinstance" = none) (m_list : mg "list" = none) (m_tuple : mg "tuple" = none)
    (m_bool : mg "bool" = none) (m_int : mg "int" = none) (m_str : mg "str" = none) (m_len : mg "len" = none) (m_all : mg "all" = none) (m_zip : mg "zip" = none) : ∀ n : Nat, FnOk P w K mg base CX0 (n + 2) f fd ["_law_found", "_law_due"] (spD K (sameS n)) := by
  have step : ∀ (k : Nat) (S : DSp), FnOk P w K mg base CX0 (k + 1) f fd ["_law_found", "_law_due"] (spD K S) → ∀ (S2 : DSp), (∀ ds O Q E, S2 ds O Q E → ∃ (n : Nat) (a b : D), ds = [a, b] ∧ Plain n a ∧ Plain n b ∧ Q (.bl (sameD a b)) O ∧ ∀ x y Q', (∃ m, n = m + 1 ∧ Plain m x ∧ Plain m y) → Q' (.bl (sameD x y)) O → S [x, y] O Q' fun _ _ => False) →
      (∀ ds O Q E, S2 ds O Q E → S2 ds O Q fun _ _ => False) → FnOk P w K mg base CX0 (k + 2) f fd ["_law_found", "_law_due"] (spD K S2) := by
    intro k S G_same S2 hS noex
    refine fn_pure F sc_same (fun ds O Q E h => ?_) (fun cdv A outer s H E hr =>
      (d_scons (d_ifS (DPW.pt (d_wor (d_tcmp od_is (d_var (i := 1) rfl (.inl rfl) (by decide) (by decide)) d_non (nomark _)) (d_or1 (d_tcmp od_is (d_var (i := 0) rfl (.inl rfl) (by decide) (by decide)) d_non (nomark _))))) (d_sone (d_ret (d_and (d_cmp od_is (d_var (i := 1) rfl (.inl rfl) (by decide) (by decide)) d_non (nomark _)) (d_one (d_cmp od_is (d_var (i := 0) rfl (.inl rfl) (by decide) (by decide)) d_non (nomark _)))))) d_snil)
      (d_scons (d_ifS (d_test (d_isiT rfl m_isinstance (d_var (i := 1) rfl (.inl rfl) (by decide) (by decide)) (d_cons (d_ty rfl m_list boot_list (by decide) (by decide)) (d_cons (d_ty rfl m_tuple boot_tuple (by decide) (by decide)) d_nil rfl) rfl) rfl rfl rfl) (by intro _; rfl)) (d_scons (d_ifS (DPW.pt (d_wor (d_tcmp (od_ne hr.units) (d_callB cd_isi rfl m_isinstance boot_isinstance (d_cons (d_var (i := 0) rfl (.inl rfl) (by decide) (by decide)) (d_cons (d_ty rfl m_list boot_list (by decide) (by decide)) d_nil rfl) rfl) (by decide) (by decide) rfl rfl) (d_callB cd_isi rfl m_isinstance boot_isinstance (d_cons (d_var (i := 1) rfl (.inl rfl) (by decide) (by decide)) (d_cons (d_ty rfl m_list boot_list (by decide) (by decide)) d_nil rfl) rfl) (by decide) (by decide) rfl rfl) (nomark _)) (d_or1 (d_tcmp (od_ne hr.units) (d_callB cd_isi rfl m_isinstance boot_isinstance (d_cons (d_var (i := 0) rfl (.inl rfl) (by decide) (by decide)) (d_cons (d_ty rfl m_tuple boot_tuple (by decide) (by decide)) d_nil rfl) rfl) (by decide) (by decide) rfl rfl) (d_callB cd_isi rfl m_isinstance boot_isinstance (d_cons (d_var (i := 1) rfl (.inl rfl) (by decide) (by decide)) (d_cons (d_ty rfl m_tuple boot_tuple (by decide) (by decide)) d_nil rfl) rfl) (by decide) (by decide) rfl rfl) (nomark _))))) (d_sone (d_ret d_bl)) d_snil)
      (d_sone (d_ret (d_and (d_cmp (od_eq hr.units) (d_callB cd_len rfl m_len boot_len (d_cons (d_var (i := 0) rfl (.inl rfl) (by decide) (by decide)) d_nil rfl) (by decide) (by decide) rfl rfl) (d_callB cd_len rfl m_len boot_len (d_cons (d_var (i := 1) rfl (.inl rfl) (by decide) (by decide)) d_nil rfl) (by decide) (by decide) rfl rfl) (nomark _)) (d_one (d_callB (cd_all rfl) rfl m_all boot_all (d_cons (d_lc rfl sc_same.nd (d_zip rfl m_zip (d_cons (d_var (i := 0) rfl (.inl rfl) (by decide) (by decide)) (d_cons (d_var (i := 1) rfl (.inl rfl) (by decide) (by decide)) d_nil rfl) rfl) rfl rfl) (blkOk_by (own := [("_law_a", 2), ("_law_b", 3)]) (N := N_same) (sc := defScope s_same) (by decide +kernel)) (fun _ _ _ _ _ => (dg_tup (n := 2) rfl (dgs_cons (dg_name (i := 2) sc_same.nd rfl (.inl rfl) (.inr rfl)) (dgs_cons (dg_name (i := 3) sc_same.nd rfl (.inl rfl) (.inr rfl)) dgs_nil rfl) rfl) rfl rfl)) (fun _ _ _ _ _ => d_ifs0) (fun _ _ _ _ _ => (d_call G_same hr rfl T_same.m T_same.k T_same.b (fun _ => pass0A) (d_cons (d_var (i := 2) rfl (.inl rfl) (by decide) (by decide)) (d_cons (d_var (i := 3) rfl (.inl rfl) (by decide) (by decide)) d_nil rfl) rfl) (by decide) rfl rfl)) (by decide +kernel) (fun _ => rfl)) d_nil rfl) (by decide) (by decide) rfl rfl)))))) d_snil)
      (d_scons (d_ifS (DPW.pt (d_wor (d_test (d_callB cd_isi rfl m_isinstance boot_isinstance (d_cons (d_var (i := 1) rfl (.inl rfl) (by decide) (by decide)) (d_cons (d_ty rfl m_bool boot_bool (by decide) (by decide)) d_nil rfl) rfl) (by decide) (by decide) rfl rfl) (by intro _; rfl)) (d_or1 (d_test (d_callB cd_isi rfl m_isinstance boot_isinstance (d_cons (d_var (i := 0) rfl (.inl rfl) (by decide) (by decide)) (d_cons (d_ty rfl m_bool boot_bool (by decide) (by decide)) d_nil rfl) rfl) (by decide) (by decide) rfl rfl) (by intro _; rfl))))) (d_sone (d_ret (d_and (d_callB cd_isi rfl m_isinstance boot_isinstance (d_cons (d_var (i := 1) rfl (.inl rfl) (by decide) (by decide)) (d_cons (d_ty rfl m_bool boot_bool (by decide) (by decide)) d_nil rfl) rfl) (by decide) (by decide) rfl rfl) (d_and (d_callB cd_isi rfl m_isinstance boot_isinstance (d_cons (d_var (i := 0) rfl (.inl rfl) (by decide) (by decide)) (d_cons (d_ty rfl m_bool boot_bool (by decide) (by decide)) d_nil rfl) rfl) (by decide) (by decide) rfl rfl) (d_one (d_cmp (od_eq hr.units) (d_var (i := 0) rfl (.inl rfl) (by decide) (by decide)) (d_var (i := 1) rfl (.inl rfl) (by decide) (by decide)) (nomark _))))))) d_snil)
      (d_scons (d_ifS (d_test (d_callB cd_isi rfl m_isinstance boot_isinstance (d_cons (d_var (i := 1) rfl (.inl rfl) (by decide) (by decide)) (d_cons (d_ty rfl m_int boot_int (by decide) (by decide)) d_nil rfl) rfl) (by decide) (by decide) rfl rfl) (by intro _; rfl)) (d_sone (d_ret (d_and (d_callB cd_isi rfl m_isinstance boot_isinstance (d_cons (d_var (i := 0) rfl (.inl rfl) (by decide) (by decide)) (d_cons (d_ty rfl m_int boot_int (by decide) (by decide)) d_nil rfl) rfl) (by decide) (by decide) rfl rfl) (d_one (d_cmp (od_eq hr.units) (d_var (i := 0) rfl (.inl rfl) (by decide) (by decide)) (d_var (i := 1) rfl (.inl rfl) (by decide) (by decide)) (nomark _)))))) d_snil)
      (d_sone (d_ret (d_and (d_callB cd_isi rfl m_isinstance boot_isinstance (d_cons (d_var (i := 0) rfl (.inl rfl) (by decide) (by decide)) (d_cons (d_ty rfl m_str boot_str (by decide) (by decide)) d_nil rfl) rfl) (by decide) (by decide) rfl rfl) (d_and (d_callB cd_isi rfl m_isinstance boot_isinstance (d_cons (d_var (i := 1) rfl (.inl rfl) (by decide) (by decide)) (d_cons (d_ty rfl m_str boot_str (by decide) (by decide)) d_nil rfl) rfl) (by decide) (by decide) rfl rfl) (d_one (d_cmp (od_eq hr.units) (d_var (i := 0) rfl (.inl rfl) (by decide) (by decide)) (d_var (i := 1) rfl (.inl rfl) (by decide) (by decide)) (nomark _)))))))))))) (fun ds O Q E h => ?_) noex
    · obtain ⟨n, a, b, rfl, _⟩ := hS ds O Q E h; rfl
    · obtain ⟨n, a, b, rfl, pa, pb, q, rec⟩ := hS ds O Q E h
      rw [show startD N_same [a, b] = [.sh a, .sh b, .un, .un] from rfl]
      have ta := pa.ty
      have tb := pb.ty
      have core : ∀ (xs ys : List D) (Q' : QD), xs.length ≤ sizeLine → (∃ m, n = m + 1 ∧ (∀ x ∈ xs, Plain m x) ∧ ∀ y ∈ ys, Plain m y) → xs.length = ys.length → Q' (.bl (sameL xs ys)) O →
          lcW tt1 (dgTup 2 (dgCons (dgName 2) (dgCons (dgName 3) dgNil))) dYes (dCall S (dCons (dVar 2) (dCons (dVar 3) dNil))) [.sh a, .sh b, .un, .un] (zipL xs ys) [] O (fun l O1 => allD [.lst l] fun d => Q' d O1) := by
        intro xs ys Q' hl ⟨m, em, hx, hy⟩ hlen q'
        refine lcW_map trivial (fun d => match d with | .tup [x, y] => .bl (sameD x y) | _ => .non) (fun d md Qy hq => ?_) (by simp [zipL]; omega) ?_
        · rw [zipL_eq] at md
          obtain ⟨⟨x, y⟩, mp, rfl⟩ := List.mem_map.mp md
          have mm : x ∈ xs ∧ y ∈ ys := by
            exact ⟨(List.of_mem_zip mp).1, (List.of_mem_zip mp).2⟩
          exact ⟨rfl, spM.of (rec x y Qy ⟨m, em, hx x mm.1, hy y mm.2⟩ hq)⟩
        · rw [List.nil_append, zipL_eq, List.map_map]
          refine allD_of (toBs_map (fun p : D × D => sameD p.1 p.2) _) ?_
          rw [List.all_map]
          have := sameL_zip hlen
          rw [this] at q'
          exact q'
      cases b with
      | non =>
        cases a <;> first
          | exact q
          | (cases ta; done)
      | lst ys =>
        cases n with
        | zero => exact pb.elim
        | succ n =>
          cases a with
          | lst xs =>
            refine ⟨by decide, rfl, ?_⟩
            refine ⟨by decide, rfl, by decide, rfl, ?_⟩
            refine ⟨by decide, rfl, by decide, rfl, ?_⟩
            by_cases hl : xs.length = ys.length
            · show bc (decide ((xs.length : Int) = ys.length)) _ _
              rw [decide_eq_true (by rw [hl])]
              exact core xs ys Q pa.1 ⟨n, rfl, pa.2, pb.2⟩ hl q
            · show bc (decide ((xs.length : Int) = ys.length)) _ _
              rw [decide_eq_false (by omega)]
              rw [show sameD (.lst xs) (.lst ys) = sameL xs ys by simp [sameD], sameL_len hl] at q
              exact q
          | tup xs => simp only [sameD] at q; (repeat (first | exact q | refine ⟨by decide, rfl, ?_⟩))
          | non => simp only [sameD] at q; (repeat (first | exact q | refine ⟨by decide, rfl, ?_⟩))
          | bl x => simp only [sameD] at q; (repeat (first | exact q | refine ⟨by decide, rfl, ?_⟩))
          | int x => simp only [sameD] at q; (repeat (first | exact q | refine ⟨by decide, rfl, ?_⟩))
          | str x => simp only [sameD] at q; (repeat (first | exact q | refine ⟨by decide, rfl, ?_⟩))
          | opq => cases ta
          | dic => exact pa.elim
          | ins => cases ta
          | exc => cases ta
          | lam => cases ta
          | nk => cases ta
      | tup ys =>
        cases n with
        | zero => exact pb.elim
        | succ n =>
          cases a with
          | tup xs =>
            refine ⟨by decide, rfl, ?_⟩
            refine ⟨by decide, rfl, by decide, rfl, ?_⟩
            refine ⟨by decide, rfl, by decide, rfl, ?_⟩
            by_cases hl : xs.length = ys.length
            · show bc (decide ((xs.length : Int) = ys.length)) _ _
              rw [decide_eq_true (by rw [hl])]
              exact core xs ys Q pa.1 ⟨n, rfl, pa.2, pb.2⟩ hl q
            · show bc (decide ((xs.length : Int) = ys.length)) _ _
              rw [decide_eq_false (by omega)]
              rw [show sameD (.tup xs) (.tup ys) = sameL xs ys by simp [sameD], sameL_len hl] at q
              exact q
          | lst xs => simp only [sameD] at q; (repeat (first | exact q | refine ⟨by decide, rfl, ?_⟩))
          | non => simp only [sameD] at q; (repeat (first | exact q | refine ⟨by decide, rfl, ?_⟩))
          | bl x => simp only [sameD] at q; (repeat (first | exact q | refine ⟨by decide, rfl, ?_⟩))
          | int x => simp only [sameD] at q; (repeat (first | exact q | refine ⟨by decide, rfl, ?_⟩))
          | str x => simp only [sameD] at q; (repeat (first | exact q | refine ⟨by decide, rfl, ?_⟩))
          | opq => cases ta
          | dic => exact pa.elim
          | ins => cases ta
          | exc => cases ta
          | lam => cases ta
          | nk => cases ta
      | bl y =>
        cases a with
        | opq => cases ta
        | ins => cases ta
        | exc => cases ta
        | lam => cases ta
        | nk => cases ta
        | dic => cases n <;> exact pa.elim
        | _ => simp only [sameD] at q; (repeat (first | exact q | refine ⟨by decide, rfl, ?_⟩))
      | int y =>
        cases a with
        | opq => cases ta
        | ins => cases ta
        | exc => cases ta
        | lam => cases ta
        | nk => cases ta
        | dic => cases n <;> exact pa.elim
        | _ => simp only [sameD] at q; (repeat (first | exact q | refine ⟨by decide, rfl, ?_⟩))
      | str y =>
        cases a with
        | opq => cases ta
        | ins => cases ta
        | exc => cases ta
        | lam => cases ta
        | nk => cases ta
        | dic => cases n <;> exact pa.elim
        | _ => simp only [sameD] at q; (repeat (first | exact q | refine ⟨by decide, rfl, ?_⟩))
      | opq => cases tb
      | dic => cases n <;> exact pb.elim
      | ins => cases tb
      | exc => cases tb
      | lam => cases tb
      | nk => cases tb
  intro n
  induction n with
  | zero =>
    refine step 0 (fun _ _ _ _ => False) ?_ (sameS 0) (fun ds O Q E ⟨a, b, e, pa, pb, q⟩ => ⟨0, a, b, e, pa, pb, q, fun x y Q' ⟨m, em, _⟩ => nomatch em⟩) (fun ds O Q E h => h)
    exact ⟨fun vs H Q E ⟨_, _, _, _, _, _, _, h, _⟩ => h.elim, fun A outer s H args us vs Q E _ _ _ _ ⟨_, _, _, _, _, _, _, h, _⟩ => h.elim⟩
  | succ n ih =>
    exact step (n + 1) (sameS n) ih (sameS (n + 1)) (fun ds O Q E ⟨a, b, e, pa, pb, q⟩ => ⟨n + 1, a, b, e, pa, pb, q, fun x y Q' ⟨m, em, px, py⟩ q' => by
      cases em
      exact ⟨x, y, rfl, px, py, q'⟩⟩) (fun ds O Q E h => h)
end
end LW
set_option Elab.async false
set_option linter.all false
set_option maxRecDepth 100000
set_option maxHeartbeats 4000000
namespace LW
open PySem PySem.Spec PyProof.Rows L2 EV
theorem pss_box {X : Cx} {sts : List Stmt} {m : Addr → DS} {T : List (Addr × Str)} (h : ∀ (b l : Addr), DPSs X ⟨boB b l T, fun _ _ _ _ => False⟩ sts (m b)) : PSs X sts (fun D σ H => ∃ b l, upS X.K ⟨boB b l T, fun _ _ _ _ => False⟩ (m b) D σ H) :=
  ⟨fun pins s σ H D I ⟨b, l, q⟩ => (h b l).run.run pins s σ H D I q⟩
def spLaw (K : PySem.W.Frag) (T : List (Addr × Str)) : Sp := fun vs H Q _ => ∃ (a : Addr) (ns : List Int), vs = [.ref a] ∧ SqL K H a (ns.map V.int) ∧ (∀ p ∈ T, H p.1 = some (.tbl #[])) ∧ ∀ H', Q (.bl true) H'
/-- the slots behind the box -/
def boxed (b : Addr) (n : Nat) : Slots := .un :: .sh (.opq (.ref b)) :: List.replicate n .un
def noO : Ow := fun _ => none
theorem boxed_rp {K : PySem.W.Frag} {G : Hp} {a b : Addr} {n : Nat} : RpS K G (some (.ref a) :: some (.ref b) :: List.replicate n none) (boxed b n) := by
  refine ⟨by simp [boxed], fun i d e => ?_⟩
  match i, e with
  | 0, e => cases e
  | 1, e => cases e; exact ⟨_, rfl, .opq _⟩
  | i + 2, e =>
    have : (List.replicate n Sl.un)[i]? = some (.sh d) := e
    rw [List.getElem?_replicate] at this
    split at this <;> cases this
/-- from the box's promise and the rest by value to the reading -/
theorem law_read {K : PySem.W.Frag} {a b l : Addr} {T : List (Addr × Str)} {ms : List Int} {mm : Int} {H1 : Hp} {Q : VK} {m : DS} {n : Nat} (mo : MoS m) (hb : H1 b = some (.lst [.ref l, .int 0, .int 0, .int mm, .int 0])) (hl : H1 l = some (.lst (ms.map V.int))) (ne : l ≠ b) (hT : ∀ p ∈ T, H1 p.1 = some (.tbl #[])) (m0 : 0 ≤ mm) (m1 : mm < 2147483587)
    (q : ∀ H', Q (.bl true) H') (h : m (endsD (fun d _ => d = .bl true) (fun _ _ => False)) (boxed b n) noO) :
    upS K ⟨boB b l T, fun _ _ _ _ => False⟩ m { nx := fun _ H' => Q .non H', rt := Q } (some (.ref a) :: some (.ref b) :: List.replicate n none) H1 := by
  have isT : ∀ x, x ∈ T.map (·.1) → H1 x = some (.tbl #[]) := fun x hx => by
    obtain ⟨p, hp, rfl⟩ := List.mem_map.mp hx
    exact hT p hp
  have lT : l ∉ T.map (·.1) := fun z => by have := isT l z; rw [hl] at this; cases this
  refine ⟨fun x => if x = b ∨ x ∈ T.map (·.1) then none else H1 x, noO, boxed b n, ⟨fun x o e => ?_, fun b' l' T' e => ?_, (fun _ _ e => nomatch e), fun p d e => nomatch e⟩, boxed_rp, mo (endsD (fun d _ => d = .bl true) fun _ _ => False) _ _ _ ⟨fun r O z => ?_, fun d O z v G' H' _ r => ?_, fun _ _ z => z.elim, fun _ _ z => z.elim, fun _ _ _ z => z.elim⟩ h⟩
  · by_cases c : x = b ∨ x ∈ T.map (·.1)
    · rw [if_pos c] at e; cases e
    · rw [if_neg c] at e; exact e
  · cases e
    refine ⟨if_pos (.inl rfl), ⟨ms, 0, 0, mm, 0, hb, .inl (.inl (by show (if l = b ∨ l ∈ T.map (·.1) then none else H1 l) = _; rw [if_neg (fun z => z.elim ne lT)]; exact hl)), by decide, by decide, m0, m1, by decide⟩, fun p hp => ⟨#[], hT p hp, True.intro, fun pos cv hc => by
      have z : codeAmong pos [] = some cv := hc
      simp [codeAmong] at z⟩, fun p hp => if_pos (.inr (List.mem_map_of_mem hp))⟩
  · cases (show D.non = D.bl true from z)
  · subst z
    cases r
    exact q H'
end LW
set_option Elab.async false
set_option linter.all false
set_option maxRecDepth 100000
set_option maxHeartbeats 4000000
namespace LW
open PySem PySem.Spec PyProof.Rows L2 EV
theorem zip_self {α : Type} : ∀ {xs : List α} {p : α × α}, p ∈ List.zip xs xs → p.1 = p.2
  | [], _, h => by simp at h
  | x :: xs, p, h => by
    rw [List.zip_cons_cons] at h
    rcases List.mem_cons.mp h with e | e
    · rw [e]
    · exact zip_self e
theorem st_norm {rest : DS} {A : DEnds} {ρ ρ' : Slots} {O : Ow} (e : ρ = ρ') (k : rest A ρ' O) : rest A ρ O := e ▸ k
theorem st_set {m : DE} {i : Nat} {rest : DS} {A : DEnds} {ρ : Slots} {O : Ow} (d : D) (h : ∀ Q E, Q d O → m ρ O Q E) (k : ∀ v, v = d → rest A (ρ.set i (.sh v)) O) : dSeq (dAsg m (dgName i)) rest A ρ O := h _ _ (k d rfl)
theorem st_setN {m : DE} {i : Nat} {rest : DS} {A : DEnds} {ρ : Slots} {O : Ow} (P : D → Prop) (h : ∀ Q E, (∀ d, P d → Q d O) → m ρ O Q E) (k : ∀ d, P d → rest A (ρ.set i (.sh d)) O) : dSeq (dAsg m (dgName i)) rest A ρ O := h _ _ k
theorem val_nil {ρ : Slots} {O : Ow} : ∀ (Q : List D → Ow → Prop) (E : QX), Q [] O → dNil ρ O Q E := fun _ _ q => q
theorem val_cons {m : DE} {mr : DA} {ρ : Slots} {O : Ow} (a : D) (as : List D) (h : ∀ Q E, Q a O → m ρ O Q E) (k : ∀ Q E, Q as O → mr ρ O Q E) : ∀ Q E, Q (a :: as) O → dCons m mr ρ O Q E := fun Q E q => h _ _ (k _ _ q)
theorem val_tup {mA : DA} {ρ : Slots} {O : Ow} (xs : List D) (h : ∀ Q E, Q xs O → mA ρ O Q E) (z : xs.length ≤ sizeLine) : ∀ Q E, Q (.tup xs) O → dTup mA ρ O Q E := fun Q E q => h _ _ ⟨z, q⟩
theorem val_op {o : D2} {ma mb : DE} {ρ : Slots} {O : Ow} (x y z : D) (h : ∀ Q E, Q x O → ma ρ O Q E) (k : ∀ Q E, Q y O → mb ρ O Q E) (ho : ∀ Q, Q z → o O x y Q) : ∀ Q E, Q z O → dOp o ma mb ρ O Q E := fun Q E q => h _ _ (k _ _ (ho _ q))
theorem le_sz {n : Nat} (h : Nat.ble n sizeLine = true) : n ≤ sizeLine := Nat.le_of_ble_eq_true h
theorem same_refl : ∀ (n : Nat) (d : D), Plain n d → sameD d d = true
  | _, .non, _ => by simp [sameD]
  | _, .bl _, _ => by simp [sameD]
  | _, .int _, _ => by simp [sameD]
  | _, .str _, _ => by simp [sameD]
  | n + 1, .lst xs, h => by
    rw [sameD, sameL_zip rfl]
    refine List.all_eq_true.mpr fun p hp => ?_
    have e : p.1 = p.2 := zip_self hp
    rw [← e]
    exact same_refl n p.1 (h.2 _ (List.of_mem_zip hp).1)
  | n + 1, .tup xs, h => by
    rw [sameD, sameL_zip rfl]
    refine List.all_eq_true.mpr fun p hp => ?_
    have e : p.1 = p.2 := zip_self hp
    rw [← e]
    exact same_refl n p.1 (h.2 _ (List.of_mem_zip hp).1)
  | 0, .lst _, h => h.elim
  | 0, .tup _, h => h.elim
  | 0, .opq _, h => h.elim
  | _ + 1, .opq _, h => h.elim
  | 0, .dic _, h => h.elim
  | _ + 1, .dic _, h => h.elim
  | 0, .ins _ _, h => h.elim
  | _ + 1, .ins _ _, h => h.elim
  | 0, .exc _ _, h => h.elim
  | _ + 1, .exc _ _, h => h.elim
  | 0, .lam _, h => h.elim
  | 0, .nk _ _ _, h => h.elim
  | _ + 1, .lam _, h => h.elim
  | _ + 1, .nk _ _ _, h => h.elim
theorem Plain.up : ∀ {n : Nat} {d : D}, Plain n d → Plain (n + 1) d
  | _, .non, _ => trivial
  | _, .bl _, _ => trivial
  | _, .int _, _ => trivial
  | _, .str _, _ => trivial
  | n + 1, .lst xs, h => ⟨h.1, fun x hx => (h.2 x hx).up⟩
  | n + 1, .tup xs, h => ⟨h.1, fun x hx => (h.2 x hx).up⟩
  | 0, .lst _, h => h.elim
  | 0, .tup _, h => h.elim
  | 0, .opq _, h => h.elim
  | _ + 1, .opq _, h => h.elim
  | 0, .dic _, h => h.elim
  | _ + 1, .dic _, h => h.elim
  | 0, .ins _ _, h => h.elim
  | _ + 1, .ins _ _, h => h.elim
  | 0, .exc _ _, h => h.elim
  | _ + 1, .exc _ _, h => h.elim
  | 0, .lam _, h => h.elim
  | 0, .nk _ _ _, h => h.elim
  | _ + 1, .lam _, h => h.elim
  | _ + 1, .nk _ _ _, h => h.elim
end LW
set_option Elab.async false
set_option linter.all false
set_option maxRecDepth 100000
set_option maxHeartbeats 4000000
namespace LamX
open PySem PySem.Spec PyProof.Rows L2
/-- a lambda of the def at X: no cell of its own; its own parameters are no names of X's -/
structure LamW (N : List Str) (sc scope : Scope) : Prop where
  kind : scope.kind = .function
  co : scope.isCoroutine = false
  gen : scope.isGenerator = false
  cell : ∀ y ∈ scope.names, y.2 ≠ .cell
  own : ∀ y ∈ scope.names, y.2 = .local → y.1 ∉ N
  free : ∀ y ∈ scope.names, y.2 = .free → sc.names.lookup y.1 = some .cell ∨ sc.names.lookup y.1 = some .free
def lamWB (N : List Str) (sc scope : Scope) : Bool :=
  decide (scope.kind = .function) && !scope.isCoroutine && !scope.isGenerator && scope.names.all fun y => !decide (y.2 = .cell) && (!decide (y.2 = .local) || !N.contains y.1) && (!decide (y.2 = .free) || decide (sc.names.lookup y.1 = some .cell) || decide (sc.names.lookup y.1 = some .free))
theorem lamW_by {N : List Str} {sc scope : Scope} (h : lamWB N sc scope = true) : LamW N sc scope := by
  unfold lamWB at h
  simp only [Bool.and_eq_true, Bool.or_eq_true, Bool.not_eq_true', decide_eq_true_eq, decide_eq_false_iff_not, List.all_eq_true] at h
  obtain ⟨⟨⟨h1, h2⟩, h3⟩, h4⟩ := h
  refine ⟨h1, h2, h3, fun y hy => (h4 y hy).1.1, fun y hy e => ?_, fun y hy e => ?_⟩
  · rcases (h4 y hy).1.2 with z | z
    · exact absurd e z
    · simpa using z
  · rcases (h4 y hy).2 with (z | z) | z
    · exact absurd e z
    · exact .inl z
    · exact .inr z
theorem LamW.has {X : Cx} {scope : Scope} (L : LamW X.N X.env.scope scope) (ok : X.Ok) : ∀ y ∈ scope.names, y.2 = .free → ∃ c, X.env.cells.lookup y.1 = some c := fun y hy e => by
  rcases L.free y hy e with k | k
  · exact ok.has _ (.inl k)
  · exact ok.has _ (.inr k)
/-- what the making of a lambda leaves: the table may have grown by the new code object at c' -/
def MadeT (H H1 : Hp) (P c' : Addr) (q : Str) (pos : Pos) : Prop := (H1 = H ∧ H c' = some (CodeO c' q) ∧ ∃ ps, H P = some (.tbl ps) ∧ codeAmong pos ps.toList = some (.ref c')) ∨ ∃ ps more, H P = some (.tbl ps) ∧ H c' = none ∧ H1 = upd (upd H P (.tbl (ps ++ more))) c' (CodeO c' q) ∧ ∀ p' cv, codeAmong p' (ps ++ more).toList = some cv → codeAmong p' ps.toList = some cv ∨ cv = .ref c'
section
variable {X : Cx} {pins : List (Addr × Obj)} {σ : L2.St} {H : Hp} {s : Shared}
theorem lay_frz (I : Inv X pins σ H s) {h' : Heap} {t' : Nat} {a : Addr} {o : Obj} (old : ∀ b u, s.heap.get? b = some u → h'.get? b = some u) (hs : s.heap.objs.size ≤ a) (ho : h'.get? a = some o) : Inv X pins σ (upd H a (.frz o (.own 0))) { s with heap := h', toks := t' } :=
  I.laid (t' := t') old hs ⟨ho, _, ho⟩
theorem lam_tail {T : List (Addr × Str)} {c P : Addr} {params : Arguments} {body : Expr} {scope : Scope} {pos : Pos} {dV : Value} {E : Value → Shared → Prop} {Q : Value → Shared → Prop} (I : Inv X pins σ H s) (TB : TabB X.base X.mg c P) (hcode : X.env.code = .ref c)
    (hm : (P, X.env.qual ++ "<lambda>") ∈ T) (hu : ∀ p ∈ T, p.1 = P → p.2 = X.env.qual ++ "<lambda>") (hT : Tabs T H) (hfree : ∀ y ∈ scope.names, y.2 = .free → ∃ c, X.env.cells.lookup y.1 = some c)
    (h : ∀ (f c' : Addr) (doc pm ctv : Value) (H1 : Hp) (s' : Shared), MadeT H H1 P c' (X.env.qual ++ "<lambda>") pos → Tabs T H1 → H1 f = none →
      Inv X pins σ (upd H1 f (.frz (PySem.W.kdv_obj "<lambda>" (X.env.qual ++ "<lambda>") params (.expr body) scope (cloFrom X.env.cells scope.names []) dV doc pm c' ctv) (.own 0))) s' → Q (.ref f) s') :
    wpAny (model X.prog X.w) X.A (makeTail "<lambda>" (X.env.qual ++ "<lambda>") params (.expr body) scope X.env dV .none none pos pos.line) Q E s := by
  obtain ⟨ps, hP, ht, ha⟩ := hT _ hm
  have bP : s.heap.BuiltinsAt X.mg P := TB.bm.keeps I.bk
  have hP' : s.heap.get? P = some { cls := .none, data := .fields ps } := I.hok P _ hP
  cases hc : codeAmong pos ps.toList with
  | none =>
    refine PySem.W.kdv_makeTail (mg := X.mg) (c := c) (P := P) (ps := ps) (closure_ok hfree) I.ok.glob (I.mod.glob.keeps I.bk) hcode (TB.code.keeps I.bk) hP' ht hc TB.gP bP fun c' ctv doc h' tk hx hge hlt hrec htb => ?_
    obtain ⟨c2, oc, vs, t, e2, hoc, hd, hv⟩ := hrec
    cases e2
    have hsz : s.heap.objs.size ≤ h'.objs.size := Nat.le_trans hge (Nat.le_of_lt hlt)
    have nC : H c' = none := I.hok.fresh hge
    have I1 := inv_table (t' := tk) (more := #[rawInt pos.line, rawInt pos.col, .ref c']) (h' := h') I hP (fun b o hb e => hx b o hb e) htb hge ⟨oc, vs, t, hoc, hd, hv⟩
    have hE : ExtN H (upd (upd H P (.tbl (ps ++ #[rawInt pos.line, rawInt pos.col, .ref c']))) c' (CodeO c' (X.env.qual ++ "<lambda>"))) := fun b o e n => by
      rw [upd_ne (ne_of_none e nC), upd_ne (fun z => n ps (Option.some.inj (e.symm.trans (by rw [z]; exact hP))))]
      exact e
    have eL : (ps ++ #[rawInt pos.line, rawInt pos.col, .ref c']).toList = ps.toList ++ [rawInt pos.line, rawInt pos.col, .ref c'] := by simp
    refine h h'.objs.size c' doc _ ctv _ _ (.inr ⟨ps, _, hP, nC, rfl, fun p' cv hcv => by rw [eL] at hcv; exact among_app _ ht hcv⟩) (fun p hp => ?_) (I1.hok.fresh (Nat.le_refl _)) (lay_frz (s := { s with heap := h', toks := tk }) I1 (fun b u e => Heap.get?_push_of_some _ e) (Nat.le_refl _) (Heap.get?_push_size _ rfl))
    by_cases hb : p.1 = P
    · rw [hu p hp hb, hb]
      refine ⟨_, by rw [upd_ne (ne_of_none hP nC), upd_same], by rw [eL]; exact PySem.TriplesOk_snoc _ _ _ _ ht, fun p' cv hcv => ?_⟩
      rw [eL] at hcv
      rcases among_app _ ht hcv with z | z
      · obtain ⟨c0, e1, e2⟩ := ha p' cv z
        exact ⟨c0, e1, hE _ _ e2 codeO_ne⟩
      · exact ⟨c', z, upd_same⟩
    · obtain ⟨ps', a1, a2, a3⟩ := hT p hp
      refine ⟨ps', by rw [upd_ne (ne_of_none a1 nC), upd_ne hb]; exact a1, a2, fun p' cv hcv => ?_⟩
      obtain ⟨c0, e1, e2⟩ := a3 p' cv hcv
      exact ⟨c0, e1, hE _ _ e2 codeO_ne⟩
  | some cv =>
    obtain ⟨c', e, hco⟩ := ha pos cv hc
    subst e
    refine PySem.W.kdv_makeTailHit (mg := X.mg) (c := c) (P := P) (ps := ps) (closure_ok hfree) I.ok.glob (I.mod.glob.keeps I.bk) hcode (TB.code.keeps I.bk) hP' ht hc bP fun ctv doc h' tk hx hsz => ?_
    exact h h'.objs.size c' doc _ ctv H _ (.inl ⟨rfl, hco, ps, hP, hc⟩) hT (I.hok.fresh hsz) (lay_frz I (fun b o e => Heap.get?_push_of_some _ (hx b o e)) hsz (Heap.get?_push_size _ rfl))
end
end LamX
set_option Elab.async false
set_option linter.all false
set_option maxRecDepth 100000
set_option maxHeartbeats 4000000
namespace LamX
open PySem PySem.Spec PyProof.Rows L2
/-- what is known of the cells of X: the slots σ lie in them -/
structure CellsAt (X : Cx) (σ : L2.St) (H : Hp) (h : Heap) : Prop where
  cell : ∀ y c, X.env.cells.lookup y = some c → (∃ v, h.IsCell c v) ∧ H c = none
  val : ∀ (i : Nat) (y : Str) (v : V), X.N[i]? = some y → σ[i]? = some (some v) → (X.env.scope.names.lookup y = some .cell ∨ X.env.scope.names.lookup y = some .free) → ∃ c u, X.env.cells.lookup y = some c ∧ RelV v u ∧ h.IsCell c (some u)
section
variable {X : Cx} {σ : L2.St} {HZ : Hp} {s1 : Shared}
theorem lam_start3 {A : Around} {outer : List Env} {E : XK} {scope : Scope} {f c' : Addr} {h₁ : Heap} {tk : Nat} {binds : List (Str × Value)} (ok : X.Ok) (len : σ.length = X.N.length) (L : LamW X.N X.env.scope scope) (C : CellsAt X σ HZ s1.heap) (e0 : Env0 X.prog X.w X.K X.mg X.base A outer s1 HZ) (hd : A.handled = none)
    (hns : h₁.Ns s1.heap.objs.size fun y => binds.reverse.lookup y) (kp : ∀ b o, s1.heap.get? b = some o → h₁.get? b = some o) :
    Inv (lamCx X A outer s1 HZ E scope f c') [] σ HZ { s1 with heap := h₁, toks := tk } := by
  have hfree := L.has ok
  have cm : ∀ {y c}, (cloFrom X.env.cells scope.names []).lookup y = some c → X.env.cells.lookup y = some c := fun {y c} e => by
    rcases cloFrom_mem (PySem.mem_of_lookup e) with hm | ⟨h1, h2⟩
    · cases hm
    · obtain ⟨c1, hc⟩ := hfree _ h1 rfl
      have hc : X.env.cells.lookup y = some c1 := hc
      have e2 : c = c1 := by
        rw [h2, hc] <;> rfl
      rw [e2]
      exact hc
  have look : ∀ {y}, scope.names.lookup y = some .free → ∃ c, (cloFrom X.env.cells scope.names []).lookup y = some c := fun {y} hl => by
    have hy : (y, NameKind.free) ∈ scope.names := PySem.mem_of_lookup hl
    exact mem_lookup (cloFrom_has (cells := X.env.cells) (acc := []) hy)
  have cellK : ∀ {c : Addr} {v : Option Value}, s1.heap.IsCell c v → h₁.IsCell c v := fun {c v} ⟨o, ho, hd⟩ => ⟨_, kp _ _ ho, hd⟩
  have noA : ∀ b : Addr, b ∉ (lamCx X A outer s1 HZ E scope f c').ex := fun b z => absurd (show b ∈ ([] : List Addr) from z) (by simp)
  refine ⟨⟨e0.mod, L.kind, rfl, rfl, Nat.le_refl _, fun y z c e1 e2 => ok.inj y z c (cm e1) (cm e2), fun y hy => ?_, fun y c z _ => ?_, fun _ => hd, Around.frames_deeper e0.frames, .inr ⟨rfl, rfl⟩, fun b z => absurd z (noA b), e0.bs, e0.bsz, fun b _ _ => noA b,
      fun b z => absurd z (noA b), e0.funs, e0.frf⟩,
    rfl, e0.bare, Un.kept kp, ⟨_, hns, fun i y v e1 e2 e3 => ?_⟩, fun y c e => ?_, e0.hok.fresh (Nat.le_refl _), fun y c e => ?_, fun q hq => absurd (show q ∈ ([] : List (Addr × Obj)) ++ [] from hq) (by simp), e0.hok.kept kp, len⟩
  · have hy : scope.names.lookup y = some .cell ∨ scope.names.lookup y = some .free := hy
    rcases hy with hy | hy
    · exact absurd rfl (L.cell _ (PySem.mem_of_lookup hy))
    · exact look hy
  · have z : false = true := z
    cases z
  · have e3 : Vis scope y := e3
    rcases e3 with k | k | k
    · have e1 : X.N[i]? = some y := e1
      exact absurd (List.mem_of_getElem? e1) (L.own _ (PySem.mem_of_lookup k) rfl)
    · exact absurd rfl (L.cell _ (PySem.mem_of_lookup k))
    · obtain ⟨c, u, hc, r, ic⟩ := C.val i y v e1 e2 (L.free _ (PySem.mem_of_lookup k) rfl)
      obtain ⟨c2, h2⟩ := look k
      have c1 := cm h2
      rw [hc] at c1
      cases c1
      exact ⟨u, r, .inr ⟨.inr k, c, h2, cellK ic⟩⟩
  · obtain ⟨⟨w', z⟩, _⟩ := C.cell y c (cm e)
    exact ⟨w', cellK z⟩
  · exact (C.cell y c (cm e)).2
/-- the lambda at f is called -/
theorem lam_run {A : Around} {outer : List Env} {E : XK} {params : Arguments} {body : Expr} {scope : Scope} {f c' : Addr} {dV doc pm ctv : Value} {binds : List (Str × Value)} {k : Nat} {Q : VK} {tb : TE} (ok : X.Ok) (len : σ.length = X.N.length) (L : LamW X.N X.env.scope scope) (C : CellsAt X σ HZ s1.heap)
    (e0 : Env0 X.prog X.w X.K X.mg X.base A outer s1 HZ) (hr : Room (k + 1) A) (lim : s1.heap.NoLimit)
    (hf : s1.heap.get? f = some (PySem.W.kdv_obj "<lambda>" (X.env.qual ++ "<lambda>") params (.expr body) scope (cloFrom X.env.cells scope.names []) dV doc pm c' ctv)) (hc : HZ c' = some (CodeO c' (X.env.qual ++ "<lambda>")))
    (hb : BindsTo s1 (PySem.W.kdv_fn "<lambda>" (X.env.qual ++ "<lambda>") params (.expr body) scope (cloFrom X.env.cells scope.names []) dV doc pm (.ref c') ctv) ⟨[], []⟩ binds) (hl : ∀ y ∈ binds, scope.names.lookup y.1 = some .local)
    (hbody : Room k (A.deeper (lamEnv X scope s1.heap.objs.size f c')) → PE (lamCx X A outer s1 HZ E scope f c') body tb) (ht : tb σ HZ Q) :
    codeAny (model X.prog X.w) A (.call (.ref f) ⟨[], []⟩) (CR (L2.CX X.prog X.w) outer X.prog X.w HZ s1 Q E) s1 := by
  obtain ⟨⟨oc, vs, t, hoc, hdc, hvc⟩, _, _⟩ := e0.hok c' _ hc
  refine PySem.W.kla_callFunE hr.depth hf rfl L.co L.gen rfl ⟨c', oc, vs, t, rfl, hoc, hdc, hvc⟩ (hb _ _ _ _ ?_)
  refine wpAny_newFunctionEnv L.cell hl (fun h₁ hns hsb => ⟨lim.fresh _ hsb, ?_⟩) L.kind
  show codeAny _ _ (.expr body (lamEnv X scope s1.heap.objs.size f c')) _ _
  have kp : ∀ b o, s1.heap.get? b = some o → h₁.get? b = some o := fun b o e => hsb.extBut b o (Nat.ne_of_lt (Heap.lt_size e)) (Heap.get?_push_of_some _ e)
  have J : Inv (lamCx X A outer s1 HZ E scope f c') [] σ HZ { s1 with heap := h₁, toks := s1.toks + binds.length } := lam_start3 ok len L C e0 hr.hd hns kp
  refine PySem.W.kla_codeExpr (wpAny_mono ((hbody (hr.deeper _)).run [] _ _ HZ Q J ht) (fun v s' hq => ?_) fun e s' hq => hq)
  obtain ⟨w', H', J', rv, q⟩ := hq
  exact ⟨w', H', J'.os, J'.bare, J'.base, J'.hok, rv, q⟩
end
end LamX
set_option Elab.async false
set_option linter.all false
set_option maxRecDepth 100000
set_option maxHeartbeats 4000000
namespace LamX
open PySem PySem.Spec PyProof.Rows L2
abbrev Cv := Addr → Option Obj
def hplus (H : Hp) (cv : Cv) : Hp := fun a => match cv a with
  | some o => some (.frz o (.own 0))
  | none => H a
def hminus (H : Hp) (cv : Cv) : Hp := fun a => if (cv a).isSome then none else H a
theorem hplus_in {H : Hp} {cv : Cv} {a : Addr} {o : Obj} (h : cv a = some o) : hplus H cv a = some (.frz o (.own 0)) := by unfold hplus; rw [h]
theorem hplus_out {H : Hp} {cv : Cv} {a : Addr} (h : cv a = none) : hplus H cv a = H a := by unfold hplus; rw [h]
theorem hminus_in {H : Hp} {cv : Cv} {a : Addr} {o : Obj} (h : cv a = some o) : hminus H cv a = none := by unfold hminus; rw [h]; rfl
theorem hminus_out {H : Hp} {cv : Cv} {a : Addr} (h : cv a = none) : hminus H cv a = H a := by unfold hminus; rw [h]; rfl
/-- the entries of cv stand in H -/
def Has (H : Hp) (cv : Cv) : Prop := ∀ a o, cv a = some o → H a = some (.frz o (.own 0))
section
variable {P : Program} {w : World} {K : PySem.W.Frag} {mg : Str → Option Value} {base : Heap} {A : Around} {outer : List Env} {s s' : Shared} {H H' : Hp} {cv : Cv} {h h' B : Heap} {fs : List Addr}
theorem hok_minus (x : HOk P w H h) (hs : Has H cv) : HOk P w (hminus H cv) h := fun a o e => by
  cases q : cv a with
  | some u => rw [hminus_in q] at e; cases e
  | none =>
    rw [hminus_out q] at e
    have ne : ∀ {b : Addr} {u : HO}, H b = some u → (∀ o, u ≠ .frz o (.own 0)) → hminus H cv b = some u := fun {b u} e n => by
      cases q : cv b with
      | some z => rw [hs b z q] at e; cases e; exact absurd rfl (n _)
      | none => rw [hminus_out q]; exact e
    exact (x a o e).stay (fun b u _ r => r) (fun b r => ne r (fun o z => by cases z)) fun b xs r => ne r (fun o z => by cases z)
theorem hok_plus (x : HOk P w H h) (hn : ∀ a o, cv a = some o → H a = none) (hg : ∀ a o, cv a = some o → h.get? a = some o) : HOk P w (hplus H cv) h := fun a o e => by
  cases q : cv a with
  | some u => rw [hplus_in q] at e; cases e; exact ⟨hg a u q, u, hg a u q⟩
  | none =>
    rw [hplus_out q] at e
    have ne : ∀ {b : Addr} {u : HO}, H b = some u → hplus H cv b = some u := fun {b u} e => by
      cases q : cv b with
      | some z => rw [hn b z q] at e; cases e
      | none => rw [hplus_out q]; exact e
    exact (x a o e).stay (fun b u _ r => r) (fun b r => ne r) fun b xs r => ne r
theorem has_get (x : HOk P w H h) (hs : Has H cv) : ∀ a o, cv a = some o → h.get? a = some o := fun a o e => (x a _ (hs a o e)).1
theorem env_minus (e0 : Env0 P w K mg base A outer s H) (hs : Has H cv) : Env0 P w K mg base A outer s (hminus H cv) :=
  ⟨e0.frames, e0.mod, fun b o e => ⟨(e0.bs b o e).1, by
    cases q : cv b with
    | some z => exact hminus_in q
    | none => rw [hminus_out q]; exact (e0.bs b o e).2⟩, e0.bsz, e0.funs, fun b hb => by
    cases q : cv b with
    | some z => exact hminus_in q
    | none => rw [hminus_out q]; exact e0.frf b hb, hok_minus e0.hok hs, e0.bare⟩
/-- what may be tracked: untracked objects that are no frames and not of the ground -/
structure CvOk (base : Heap) (outer : List Env) (H : Hp) (h : Heap) (cv : Cv) : Prop where
  un : ∀ a o, cv a = some o → H a = none
  get : ∀ a o, cv a = some o → h.get? a = some o
  fr : ∀ a o, cv a = some o → a ∉ frs outer
  bs : ∀ a o, cv a = some o → base.get? a = none
theorem env_plus (e0 : Env0 P w K mg base A outer s H) (c : CvOk base outer H s.heap cv) : Env0 P w K mg base A outer s (hplus H cv) :=
  ⟨e0.frames, e0.mod, fun b o e => ⟨(e0.bs b o e).1, by
    cases q : cv b with
    | some z => rw [c.bs b z q] at e; cases e
    | none => rw [hplus_out q]; exact (e0.bs b o e).2⟩, e0.bsz, e0.funs, fun b hb => by
    cases q : cv b with
    | some z => exact absurd hb (c.fr b z q)
    | none => rw [hplus_out q]; exact e0.frf b hb, hok_plus e0.hok c.un c.get, e0.bare⟩
/-- run without cv's entries; seen with them -/
theorem un_plus (u : Un fs [] (hminus H cv) H' h h') (hs : Has H cv) : Un fs [] H (hplus H' cv) h h' := by
  have out : ∀ {b : Addr}, H b = none → cv b = none := fun {b} e => by
    cases q : cv b with
    | none => rfl
    | some z => rw [hs b z q] at e; cases e
  have mi : ∀ {b : Addr}, H b = none → hminus H cv b = none := fun {b} e => by rw [hminus_out (out e)]; exact e
  have pl : ∀ {b : Addr} {o : HO}, H b = some o → (∀ z, o ≠ .frz z (.own 0)) → cv b = none := fun {b o} e n => by
    cases q : cv b with
    | none => rfl
    | some z => rw [hs b z q] at e; cases e; exact absurd rfl (n _)
  refine ⟨fun b o e n f x => u.keep b o e (mi n) f x, fun b o e n f x => u.slot b o e (mi n) f x, fun b o e n x => by rw [hplus_out (out n)]; exact u.free b o e (mi n) x, u.there, fun b xs e => ?_, fun b o z e => ?_, fun b ps e => ?_⟩
  · have q := pl e (fun z y => by cases y)
    rw [hplus_out q]; exact u.tups b xs (by rw [hminus_out q]; exact e)
  · cases q : cv b with
    | some y => rw [hplus_in q]; rw [hs b y q] at e; exact e
    | none => rw [hplus_out q]; exact u.frzs b o z (by rw [hminus_out q]; exact e)
  · have q := pl e (fun z y => by cases y)
    rw [hplus_out q]; exact u.tbls b ps (by rw [hminus_out q]; exact e)
theorem ub_plus (u : UB fs (hminus H cv) H' h B h') (hs : Has H cv) : UB fs H (hplus H' cv) h B h' := by
  have out : ∀ {b : Addr}, H b = none → cv b = none := fun {b} e => by
    cases q : cv b with
    | none => rfl
    | some z => rw [hs b z q] at e; cases e
  have mi : ∀ {b : Addr}, H b = none → hminus H cv b = none := fun {b} e => by rw [hminus_out (out e)]; exact e
  have pl : ∀ {b : Addr} {o : HO}, H b = some o → (∀ z, o ≠ .frz z (.own 0)) → cv b = none := fun {b o} e n => by
    cases q : cv b with
    | none => rfl
    | some z => rw [hs b z q] at e; cases e; exact absurd rfl (n _)
  refine ⟨fun b o e n f => u.keep b o e (mi n) f, u.slot, fun b o e n => by rw [hplus_out (out n)]; exact u.free b o e (mi n), u.there, fun b xs e => ?_, fun b o z e => ?_, fun b ps e => ?_⟩
  · have q := pl e (fun z y => by cases y)
    rw [hplus_out q]; exact u.tups b xs (by rw [hminus_out q]; exact e)
  · cases q : cv b with
    | some y => rw [hplus_in q]; rw [hs b y q] at e; exact e
    | none => rw [hplus_out q]; exact u.frzs b o z (by rw [hminus_out q]; exact e)
  · have q := pl e (fun z y => by cases y)
    rw [hplus_out q]; exact u.tbls b ps (by rw [hminus_out q]; exact e)
/-- a call's end, seen with cv's entries -/
theorem cr_plus {Q : VK} {E : XK} {r : Result} (hs : Has H cv) (hok : HOk P w H s.heap) (fr : ∀ a o, cv a = some o → a ∉ frs outer)
    (c : CR (L2.CX P w) outer P w (hminus H cv) s (fun v H' => (∀ a o, cv a = some o → H' a = none) → Q v (hplus H' cv)) (fun cls d H' => (∀ a o, cv a = some o → H' a = none) → E cls d (hplus H' cv)) r s') : CR (L2.CX P w) outer P w H s Q E r s' := by
  have hg := has_get hok hs
  cases r with
  | error e =>
    obtain ⟨a, B, H', cls, d, rfl, fl, hk, ub, na, os, ag, q⟩ := c
    have inB : ∀ a o, cv a = some o → B.get? a = some o := fun a o z => ub.keep a o (hg a o z) (hminus_in z) (fr a o z)
    have fre : ∀ a o, cv a = some o → H' a = none := fun a o z => ub.free a o (hg a o z) (hminus_in z)
    refine ⟨a, B, hplus H' cv, cls, d, rfl, fl, hok_plus hk fre inB, ub_plus ub hs, ?_, os, ag, q fre⟩
    cases z : cv a with
    | none => rw [hplus_out z]; exact na
    | some o => have := inB a o z; rw [fl.2.1] at this; cases this
  | ok fl =>
    cases fl with
    | ret u =>
      obtain ⟨v, H', os, ag, un, hk, rv, q⟩ := c
      have inB : ∀ a o, cv a = some o → s'.heap.get? a = some o := fun a o z => un.keep a o (hg a o z) (hminus_in z) (fr a o z) (by simp)
      have fre : ∀ a o, cv a = some o → H' a = none := fun a o z => un.free a o (hg a o z) (hminus_in z) (by simp)
      exact ⟨v, hplus H' cv, os, ag, un_plus un hs, hok_plus hk fre inB, rv, q fre⟩
    | next => exact c
    | brk => exact c
    | cont => exact c
/-- run with cv's entries; seen without -/
theorem un_minus (u : Un fs [] (hplus H cv) H' h h') (hn : ∀ a o, cv a = some o → H a = none) (hg : ∀ a o, cv a = some o → h.get? a = some o) (hf : ∀ a o, cv a = some o → a ∉ fs) (hk : HOk P w H' h') : Un fs [] H (hminus H' cv) h h' := by
  have hs : Has H' cv := fun a o e => u.frzs a o _ (hplus_in e)
  have out : ∀ {b : Addr} {o : HO}, H b = some o → cv b = none := fun {b o} e => by
    cases q : cv b with
    | none => rfl
    | some z => rw [hn b z q] at e; cases e
  refine ⟨fun b o e n f x => ?_, fun b o e n f x => ?_, fun b o e n x => ?_, u.there, fun b xs e => ?_, fun b o z e => ?_, fun b ps e => ?_⟩
  · cases q : cv b with
    | some y =>
      have e1 := hg b y q
      rw [e] at e1; cases e1
      exact has_get hk hs b o q
    | none => exact u.keep b o e (by rw [hplus_out q]; exact n) f x
  · cases q : cv b with
    | some y => exact absurd f (hf b y q)
    | none => exact u.slot b o e (by rw [hplus_out q]; exact n) f x
  · cases q : cv b with
    | some y => exact hminus_in q
    | none => rw [hminus_out q]; exact u.free b o e (by rw [hplus_out q]; exact n) x
  · rw [hminus_out (out e)]; exact u.tups b xs (by rw [hplus_out (out e)]; exact e)
  · rw [hminus_out (out e)]; exact u.frzs b o z (by rw [hplus_out (out e)]; exact e)
  · rw [hminus_out (out e)]; exact u.tbls b ps (by rw [hplus_out (out e)]; exact e)
end
end LamX
set_option Elab.async false
set_option linter.all false
set_option maxRecDepth 100000
set_option maxHeartbeats 4000000
namespace L2
open PySem PySem.Spec PyProof.Rows PySem.XO
section
variable {X : Cx} {C : Addr} {code : Str} {names : List Str} {n : Nat} {x : Str} {a : Expr} {es : List Expr} {t : TA} {p pos : Pos}
def tMkE (C : Addr) (code : Str) (names : List Str) (t : TA) : St → Hp → XK → Prop := fun σ H Q => t σ H fun vs H1 => vs.length = names.length ∧ ∀ d, H1 d = none → Q (.ref C) (some d) (upd H1 d (.xd (errF code names vs)))
theorem mk_run {pins : List (Addr × Obj)} {σ : St} {H : Hp} {s : Shared} {Q : XK} {us : List Value} {vs : List V} (Er : Err X.prog X.w X.K X.mg X.base n C code names) (hr : Room n X.A) (I : Inv X pins σ H s) (r : Vals vs us) (hl : vs.length = names.length)
    (h : ∀ d, H d = none → Q (.ref C) (some d) (upd H d (.xd (errF code names vs)))) : wpAny (model X.prog X.w) X.A (call (.ref C) us) (MkP X pins σ Q) X.xe s := by
  refine wpAny_call (Er.run I.ok.mod us (by rw [← r.length]; exact hl) X.A _ s I.bk I.nolimit (by have := hr.dp; omega) fun h' tk e d mA t hm M => ?_)
  obtain ⟨t1, ho⟩ := M.obj
  show MkP X pins σ Q (.ref e) { s with heap := h', toks := tk }
  obtain ⟨G', g1, g2⟩ := restrict h' fun b => decide (b ≠ e)
  have gk : ∀ b, b ≠ e → G'.get? b = h'.get? b := fun b hb => g1 b (decide_eq_true hb)
  have ge : G'.get? e = none := g2 e (by simp)
  have old : ∀ b o, s.heap.get? b = some o → G'.get? b = some o := fun b o q => (gk b (Nat.ne_of_lt (Nat.lt_of_lt_of_le (Heap.lt_size q) M.new))).trans (M.keep b o q)
  have ob : ObjOk X.prog X.w (upd H d (.xd (errF code names vs))) G' d (.xd (errF code names vs)) :=
    ⟨mA, M.ns.at (fun o q => (gk d M.dne).trans q), fun f => by rw [hm f]; exact relO_err r⟩
  have J : Inv X pins σ (upd H d (.xd (errF code names vs))) { s with heap := G', toks := tk } := I.laid (t' := tk) old M.dbig ob
  refine ⟨e, _, _, { s with heap := G', toks := tk }, _, .ref C, some d, rfl, J, fun b o q => ?_, ge, ho, ⟨rfl, rfl⟩, rfl, rfl, ?_, rfl, I.bare, raises_own Er.exC Er.tyC, h d (I.hok.fresh M.dbig)⟩
  · by_cases hb : b = e
    · have q' : G'.get? b = some o := q
      rw [hb, ge] at q'; cases q'
    · have q' : G'.get? b = some o := q
      rw [gk b hb] at q'
      exact q'
  · rw [upd_ne (fun z => M.dne z.symm)]
    exact I.hok.fresh M.new
theorem pmk_err (Er : Err X.prog X.w X.K X.mg X.base n C code names) (hr : Room n X.A) (hg : Gl X x) (hm : X.mg x = some (.ref C)) (ha : PA X (a :: es) t) (hdb : (x == ("__debug__" : Str)) = false) (he : starEach (a :: es) X.env = (false, eval a X.env) :: starEach es X.env) (hpl : (backTo pos (starEach es X.env)).any (·.1) = false) :
    PMk X (.Call (.Name x p) (a :: es) [] pos) (tMkE C code names t) := by
  intro pins s σ H Q I h
  refine wpAny_Call_Name_kw (ld_glob I hg hm ?_ hdb)
  refine PySem.W.callWith_K (h₀ := X.base) I.ok.mod.kin Er.kp (thn (ha.run pos pins s σ H _ I h) fun us s1 ⟨vs, H1, I1, r, hl, q⟩ => ⟨I1.kIn, ?_⟩) he hpl
  exact mk_run Er hr I1 r hl q
end
end L2
namespace EV
open PySem PySem.Spec PyProof.Rows L2
section
variable {X : Cx} {L : Pl} {C : Addr} {code : Str} {names : List Str} {n : Nat} {x : Str} {a : Expr} {es : List Expr} {mA : DA} {p pos pos2 : Pos}
variable {K : PySem.W.Frag} {B : Bo} {O : Ow} {G H : Hp}
abbrev Tk (X : Cx) (L : Pl) : Prop := Takes X (fun cls d σ H => L.W σ cls d H)
abbrev dRaise (C : Addr) (code : Str) (names : List Str) (mA : DA) : DS := fun A ρ O => mA ρ O (fun ds O1 => ds.length = names.length ∧ A.ex (C, errD code names ds) ρ O1) (fun x O1 => A.ex x ρ O1)
theorem exd_new {d : Addr} {vs : List V} {ds : List D} (g : Good K B O G H) (r : RpL K G vs ds) (nd : H d = none) :
    Step K B O G H O (upd G d (.xd (errF code names vs))) (upd H d (.xd (errF code names vs))) ∧ RpF K (upd G d (.xd (errF code names vs))) (errF code names vs) (errD code names ds) := by
  have s1 := Step.new (o := .xd (errF code names vs)) g nd
  exact ⟨s1, .cons (.str _) (RpF.zip (r.mono s1.grow))⟩
theorem d_raise (hc : X.calm = true) (tk : Tk X L) (Er : Err X.prog X.w X.K X.mg X.base n C code names) (hr : Room n X.A) (hg : Gl X x) (hm : X.mg x = some (.ref C)) (ha : DPA X L (a :: es) mA) (hdb : (x == ("__debug__" : Str)) = false) (he : starEach (a :: es) X.env = (false, eval a X.env) :: starEach es X.env) (hpl : (backTo pos (starEach es X.env)).any (·.1) = false) :
    DPS X L (.Raise (some (.Call (.Name x p) (a :: es) [] pos)) none pos2) (dRaise C code names mA) := by
  refine ⟨fun A A' ρ O l z => ha.mo _ _ _ _ _ _ (fun d O1 y => ⟨y.1, l.ex _ _ _ y.2⟩) (fun x _ y => l.ex _ _ _ y) z, ps_imp (ps_raise hc tk (pmk_err Er hr hg hm ha.run hdb he hpl)) fun Dn σ H ⟨G, O, ρ, g, rs, q⟩ => ?_⟩
  refine upAE ha.mo g rs q fun ds vs O1 G1 H1 q1 s1 r1 => ⟨by rw [r1.length]; exact q1.1, fun d nd => ?_⟩
  obtain ⟨s2, r2⟩ := exd_new (code := code) (names := names) s1.good r1 nd
  exact q1.2 σ d _ _ _ (s1.trans s2) (rs.step (s1.trans s2)) upd_same r2
end
section
variable {P : Program} {w : World} {K : PySem.W.Frag} {mg : Str → Option Value} {base : Heap}
theorem fn_exc {x qual : Str} {st : Stmt} {f : Addr} {fd : FuncData} {N ps : List Str} {k : Nat} {sp : DSp} {ms : DS} (Fn : Fun K x qual st f fd) (S : FnScope N ps (defScope st)) (len : ∀ ds O Q E, sp ds O Q E → ds.length = ps.length)
    (hb : ∀ (cdv : Value) (A : Around) (outer : List Env) (s : Shared) (H : Hp) (E : XK), Room k (A.deeper (envOfC qual (defScope st) s.heap.objs.size f cdv)) → Tk (cxOf (L2.CX P w) P w K mg base N qual (defScope st) f cdv A outer s H E) ⟨bo0, fun _ => E⟩ →
      DPSs (cxOf (L2.CX P w) P w K mg base N qual (defScope st) f cdv A outer s H E) ⟨bo0, fun _ => E⟩ (defBody st) ms)
    (h : ∀ ds O Q E, sp ds O Q E → ms (endsD Q E) (startD N ds) O) : FnOk P w K mg base (L2.CX P w) (k + 1) f fd ps (spD K sp) := by
  refine Fn.okX S (fun vs H Q E ⟨G, O, ds, g, r, Q0, E0, h0, _⟩ => ?_) (fun cdv A outer s H vs Q E hr ⟨G, O, ds, g, r, Q0, E0, h0, hq, hx⟩ => ?_)
  · rw [r.length]; exact len _ _ _ _ h0
  · have b := hb cdv A outer s H E hr (takes_of rfl rfl rfl rfl)
    refine ⟨_, b.run, G, O, startD N ds, g, start_rp r, b.mo (endsD Q0 E0) _ _ _ ⟨fun ρ O1 z σ' G' H' s _ => hq _ _ z _ G' H' s .non, fun d O1 z v G' H' s rv => hq _ _ z v G' H' s rv, fun _ _ z => z.elim, fun _ _ z => z.elim, fun x ρ _ z σ' d fs G' H' s _ a rf => hx _ _ z d fs G' H' s a rf⟩ (h ds O Q0 E0 h0)⟩
theorem tk_pass {X : Cx} {L : Pl} (tk : Tk X L) (σ : L2.St) : PassesAt (L2.CX X.prog X.w) X σ (L.W σ) := passAt (W := fun cls d σ H => L.W σ cls d H) tk σ
end
end EV
set_option Elab.async false
set_option linter.all false
set_option maxRecDepth 100000
set_option maxHeartbeats 4000000
namespace EV
open PySem PySem.Spec PyProof.Rows L2 LamX
mutual
/-- no error within -/
def noX : D → Bool
  | .exc _ _ => false
  | .lst xs => noXs xs
  | .tup xs => noXs xs
  | .dic kvs => noXk kvs
  | .ins _ fs => noXf fs
  | _ => true
def noXs : List D → Bool
  | [] => true
  | x :: xs => noX x && noXs xs
def noXk : List (Key × D) → Bool
  | [] => true
  | x :: xs => noX x.2 && noXk xs
def noXf : List (Str × D) → Bool
  | [] => true
  | x :: xs => noX x.2 && noXf xs
end
section
variable {K : PySem.W.Frag} {G G' : Hp} {bad : Obj → Prop}
theorem LamFd.part (h : ∀ a u, G a = some u → (∀ o, u = .frz o (.own 0) → ¬ bad o) → G' a = some u) (hb : ∀ o, bad o → (∃ v, o.data = .cell v) ∨ ∃ vs, o.data = .fields vs) {l : LamD} {c : Addr} {fd : FuncData} (r : LamFd G l c fd) : LamFd G' l c fd := by
  obtain ⟨dV, doc, pm, ctv, bs, h1, h2, h3⟩ := r
  refine ⟨dV, doc, pm, ctv, bs, h1, h2, ?_⟩
  rcases h3 with h3 | ⟨t, o, its, n, h4, h6, h5⟩
  · exact .inl h3
  · refine .inr ⟨t, o, its, n, h _ _ h4 (fun o' e b => ?_), h6, h5⟩
    cases e
    rcases hb o b with ⟨v, e⟩ | ⟨v, e⟩ <;> rw [h6] at e <;> cases e
theorem sqT_cut (h : ∀ a u, G a = some u → (∀ o, u = .frz o (.own 0) → ¬ bad o) → G' a = some u) {a : Addr} {xs : List V} (r : SqT K G a xs) : SqT K G' a xs := by
  rcases r with (r | ⟨o, r⟩) | r
  · exact .inl (.inl (h _ _ r (fun o e => by cases e)))
  · exact .inl (.inr ⟨o, h _ _ r (fun o e => by cases e)⟩)
  · exact .inr r
mutual
theorem Rp.part (h : ∀ a u, G a = some u → (∀ o, u = .frz o (.own 0) → ¬ bad o) → G' a = some u) (hb : ∀ o, bad o → (∃ v, o.data = .cell v) ∨ ∃ vs, o.data = .fields vs) : ∀ {d : D} {v : V}, ((∀ o, bad o → ∃ v, o.data = .cell v) ∨ noX d = true) → Rp K G v d → Rp K G' v d
  | .non, _, _, .non => .non
  | .bl _, _, _, .bl b => .bl b
  | .int _, _, _, .int i => .int i
  | .str _, _, _, .str x => .str x
  | .opq _, _, _, .opq v => .opq v
  | .lst _, _, c, .lst e r => .lst (h _ _ e (fun o z => by cases z)) (RpL.part h hb (c.imp id fun z => by simpa [noX] using z) r)
  | .tup _, _, c, .tup e r => .tup (sqT_cut h e) (RpL.part h hb (c.imp id fun z => by simpa [noX] using z) r)
  | .dic _, _, c, .dic e r => .dic (h _ _ e (fun o z => by cases z)) (RpK.part h hb (c.imp id fun z => by simpa [noX] using z) r)
  | .ins _ _, _, c, .ins e r => .ins (h _ _ e (fun o z => by cases z)) (RpF.part h hb (c.imp id fun z => by simpa [noX] using z) r)
  | .exc _ _, _, c, .exc e x q r => by
    have c' : ∀ o, bad o → ∃ v, o.data = .cell v := c.elim id fun z => by simp [noX] at z
    refine .exc (h _ _ e (fun o z b => ?_)) x (h _ _ q (fun o z => by cases z)) (RpF.part h hb (.inl c') r)
    obtain ⟨oe, vs, e1, _, e2⟩ := x
    rw [e1] at z; cases z
    obtain ⟨v, e3⟩ := c' _ b
    rw [e2] at e3; cases e3
  | .lam _, _, _, .lam e q r => by
    refine .lam (h _ _ e (fun o z b => ?_)) (h _ _ q (fun o z => by unfold CodeO at z; cases z)) (r.part h hb)
    cases z
    rcases hb _ b with ⟨v, e⟩ | ⟨v, e⟩ <;> cases e
  | .nk _ _ _, _, _, .nk e => .nk (h _ _ e (fun o z => by cases z))
theorem RpL.part (h : ∀ a u, G a = some u → (∀ o, u = .frz o (.own 0) → ¬ bad o) → G' a = some u) (hb : ∀ o, bad o → (∃ v, o.data = .cell v) ∨ ∃ vs, o.data = .fields vs) : ∀ {ds : List D} {vs : List V}, ((∀ o, bad o → ∃ v, o.data = .cell v) ∨ noXs ds = true) → RpL K G vs ds → RpL K G' vs ds
  | [], _, _, .nil => .nil
  | _ :: _, _, c, .cons a b => .cons (Rp.part h hb (c.imp id fun z => by simp [noXs] at z; exact z.1) a) (RpL.part h hb (c.imp id fun z => by simp [noXs] at z; exact z.2) b)
theorem RpK.part (h : ∀ a u, G a = some u → (∀ o, u = .frz o (.own 0) → ¬ bad o) → G' a = some u) (hb : ∀ o, bad o → (∃ v, o.data = .cell v) ∨ ∃ vs, o.data = .fields vs) : ∀ {ds : List (Key × D)} {vs : List (Key × V)}, ((∀ o, bad o → ∃ v, o.data = .cell v) ∨ noXk ds = true) → RpK K G vs ds → RpK K G' vs ds
  | [], _, _, .nil => .nil
  | _ :: _, _, c, .cons a b => .cons (Rp.part h hb (c.imp id fun z => by simp [noXk] at z; exact z.1) a) (RpK.part h hb (c.imp id fun z => by simp [noXk] at z; exact z.2) b)
theorem RpF.part (h : ∀ a u, G a = some u → (∀ o, u = .frz o (.own 0) → ¬ bad o) → G' a = some u) (hb : ∀ o, bad o → (∃ v, o.data = .cell v) ∨ ∃ vs, o.data = .fields vs) : ∀ {ds : List (Str × D)} {vs : List (Str × V)}, ((∀ o, bad o → ∃ v, o.data = .cell v) ∨ noXf ds = true) → RpF K G vs ds → RpF K G' vs ds
  | [], _, _, .nil => .nil
  | _ :: _, _, c, .cons a b => .cons (Rp.part h hb (c.imp id fun z => by simp [noXf] at z; exact z.1) a) (RpF.part h hb (c.imp id fun z => by simp [noXf] at z; exact z.2) b)
end
end
end EV
set_option Elab.async false
set_option linter.all false
set_option maxRecDepth 100000
set_option maxHeartbeats 4000000
namespace EV
open PySem PySem.Spec PyProof.Rows L2 LamX
section
variable {K : PySem.W.Frag} {B : Bo} {O O' : Ow} {G H G' H' : Hp} {cv : Cv}
abbrev IsC (o : Obj) : Prop := ∃ v, o.data = .cell v
def CvC (cv : Cv) : Prop := ∀ a o, cv a = some o → IsC o
theorem Has.sub (s : Sub G H) (h : Has G cv) : Has H cv := fun a o e => s _ _ (h a o e)
theorem part_c (hs : Has G cv) (hc : CvC cv) : ∀ a u, G a = some u → (∀ o, u = .frz o (.own 0) → ¬ IsC o) → hminus G cv a = some u := fun a u e n => by
  cases q : cv a with
  | some o => rw [hs a o q] at e; cases e; exact absurd (hc a o q) (n o rfl)
  | none => rw [hminus_out q]; exact e
theorem Rp.minus (hs : Has G cv) (hc : CvC cv) {v : V} {d : D} (r : Rp K G v d) : Rp K (hminus G cv) v d := Rp.part (bad := IsC) (part_c hs hc) (fun _ b => .inl b) (.inl fun _ b => b) r
theorem RpL.minus (hs : Has G cv) (hc : CvC cv) {v : List V} {d : List D} (r : RpL K G v d) : RpL K (hminus G cv) v d := RpL.part (bad := IsC) (part_c hs hc) (fun _ b => .inl b) (.inl fun _ b => b) r
theorem RpK.minus (hs : Has G cv) (hc : CvC cv) {v : List (Key × V)} {d : List (Key × D)} (r : RpK K G v d) : RpK K (hminus G cv) v d := RpK.part (bad := IsC) (part_c hs hc) (fun _ b => .inl b) (.inl fun _ b => b) r
theorem RpF.minus (hs : Has G cv) (hc : CvC cv) {v : List (Str × V)} {d : List (Str × D)} (r : RpF K G v d) : RpF K (hminus G cv) v d := RpF.part (bad := IsC) (part_c hs hc) (fun _ b => .inl b) (.inl fun _ b => b) r
theorem KeyG.minus (hs : Has G cv) (hc : CvC cv) {k : NestedKey} {a : Addr} (h : KeyG K G k a) : KeyG K (hminus G cv) k a := ⟨h.1, let ⟨d, e, r⟩ := h.2; ⟨d, e, r.minus hs hc⟩⟩
theorem RpN.minus (hs : Has G cv) (hc : CvC cv) : ∀ {L : SN.Ld} {ds : List (NestedKey × D)}, RpN K G L ds → RpN K (hminus G cv) L ds
  | _, _, .nil => .nil
  | _, _, .cons h r t => .cons (h.minus hs hc) (r.minus hs hc) (RpN.minus hs hc t)
theorem none_minus {a : Addr} (h : G a = none) : hminus G cv a = none := by
  cases q : cv a with
  | some o => exact hminus_in q
  | none => rw [hminus_out q]; exact h
theorem cv_out (hs : Has G cv) {a : Addr} {u : HO} (e : G a = some u) (n : ∀ o, u ≠ .frz o (.own 0)) : cv a = none := by
  cases q : cv a with
  | some o => rw [hs a o q] at e; cases e; exact absurd rfl (n o)
  | none => rfl
theorem keep_minus (hs : Has G cv) {a : Addr} {u : HO} (e : G a = some u) (n : ∀ o, u ≠ .frz o (.own 0)) : hminus G cv a = some u := by rw [hminus_out (cv_out hs e n)]; exact e
theorem sqL_minus (hs : Has G cv) {a : Addr} {xs : List V} (h : SqL K G a xs) : SqL K (hminus G cv) a xs := by
  rcases h with (h | ⟨o, h⟩) | h
  · exact .inl (.inl (keep_minus hs h (fun o z => by cases z)))
  · exact .inl (.inr ⟨o, keep_minus hs h (fun o z => by cases z)⟩)
  · exact .inr h
theorem good_minus {B' : Bo} (eb : B'.bx = B.bx) (g : Good K B O G H) (hs : Has G cv) (hc : CvC cv) (am : Sub B'.amb (hminus G cv)) : Good K B' O (hminus G cv) (hminus H cv) := by
  have hH : Has H cv := Has.sub g.sub hs
  refine ⟨fun a u e => ?_, fun b l T e => ?_, am, fun p d e => ?_⟩
  · cases q : cv a with
    | some o => rw [hminus_in q] at e; cases e
    | none => rw [hminus_out q] at e ⊢; exact g.sub a u e
  · obtain ⟨h1, ⟨ns, i, r, m, c, h2, h3, h4⟩, h5, h6⟩ := g.box b l T (eb.symm.trans e)
    refine ⟨none_minus h1, ⟨ns, i, r, m, c, keep_minus hH h2 (fun o z => by cases z), sqL_minus hs h3, h4⟩, fun p hp => ?_, fun p hp => none_minus (h6 p hp)⟩
    obtain ⟨ps, a1, a2, a3⟩ := h5 p hp
    refine ⟨ps, keep_minus hH a1 (fun o z => by cases z), a2, fun pos cv' hc' => ?_⟩
    obtain ⟨c, e1, e2⟩ := a3 pos cv' hc'
    exact ⟨c, e1, keep_minus hs e2 (fun o z => by unfold CodeO at z; cases z)⟩
  · obtain ⟨a, b, c⟩ := g.own p d e
    refine ⟨none_minus a, fun ⟨b', l', T', e', h⟩ => b ⟨b', l', T', eb.symm.trans e', h⟩, ?_⟩
    cases d <;> first
      | exact c.elim
      | (obtain ⟨vs, h, r⟩ := c; exact ⟨vs, keep_minus hH h (fun o z => by cases z), r.minus hs hc⟩)
      | (obtain ⟨dx, fs, h, r⟩ := c; exact ⟨dx, fs, keep_minus hH h (fun o z => by cases z), r.minus hs hc⟩)
      | (rename_i w b kvs; cases b <;> first
          | (obtain ⟨L, h, r1, r2⟩ := c; exact ⟨L, keep_minus hH h (fun o z => by cases z), r1, fun q hq => (r2 q hq).minus hs hc⟩)
          | (obtain ⟨L, h, r⟩ := c; exact ⟨L, keep_minus hH h (fun o z => by cases z), r.minus hs hc⟩))
theorem sub_plus (n : ∀ a o, cv a = some o → G' a = none) : Sub G' (hplus G' cv) := fun a u e => by
  cases q : cv a with
  | some o => rw [n a o q] at e; cases e
  | none => rw [hplus_out q]; exact e
/-- a step without cv's entries, seen with them -/
theorem step_plus {B' : Bo} (eb : B'.bx = B.bx) (g : Good K B O G H) (hs : Has G cv) (s : Step K B' O (hminus G cv) (hminus H cv) O' G' H') (n : ∀ a o, cv a = some o → H' a = none) : Step K B O G H O' (hplus G' cv) (hplus H' cv) := by
  have hH : Has H cv := Has.sub g.sub hs
  have nG : ∀ a o, cv a = some o → G' a = none := fun a o e => s.good.freshG (n a o e)
  have sG := sub_plus nG
  have sH : Sub H' (hplus H' cv) := sub_plus n
  have nh : ∀ a, Hid B a → cv a = none := fun a h => by
    cases q : cv a with
    | none => rfl
    | some o => have := g.hidG h; rw [hs a o q] at this; cases this
  have gr : Sub G (hplus G' cv) := fun a u e => by
    cases q : cv a with
    | some o => rw [hplus_in q]; rw [hs a o q] at e; exact e
    | none => rw [hplus_out q]; exact s.grow a u (by rw [hminus_out q]; exact e)
  have hb : ∀ {a : Addr}, Hid B a → Hid B' a := fun {a} ⟨b', l', T', e', h⟩ => ⟨b', l', T', eb.trans e', h⟩
  have hb2 : ∀ {a : Addr}, Hid B' a → Hid B a := fun {a} ⟨b', l', T', e', h⟩ => ⟨b', l', T', eb.symm.trans e', h⟩
  refine ⟨gr, ⟨fun a u e => ?_, fun b l T e => ?_, g.amb.trans gr, fun p d e => ?_⟩, fun a u e nb nO => ?_, fun a u e eG nO => ?_, fun a h => ?_⟩
  · cases q : cv a with
    | some o => rw [hplus_in q] at e ⊢; exact e
    | none => rw [hplus_out q] at e ⊢; exact s.good.sub a u e
  · refine (s.good.box b l T (eb.trans e)).step sG (fun a ha => ?_) fun a o _ h => sH _ _ h
    have ha : Hid B a := ⟨b, l, T, e, ha⟩
    rw [hplus_out (nh a ha)]; exact s.good.hidG (hb ha)
  · obtain ⟨a, b, c⟩ := s.good.own p d e
    obtain ⟨u, hu⟩ := c.some_of
    have q : cv p = none := by
      cases q : cv p with
      | none => rfl
      | some o => rw [n p o q] at hu; cases hu
    exact ⟨by rw [hplus_out q]; exact a, fun z => b (hb z), c.mono sG fun u h => sH _ _ h⟩
  · cases q : cv a with
    | some o => rw [hplus_in q]; rw [hH a o q] at e; exact e
    | none => rw [hplus_out q]; exact s.keep a u (by rw [hminus_out q]; exact e) (fun z => nb (hb2 z)) nO
  · have q : cv a = none := by
      cases q : cv a with
      | none => rfl
      | some o => rw [hs a o q] at eG; cases eG
    have := s.hid a u (by rw [hminus_out q]; exact e) (by rw [hminus_out q]; exact eG) nO
    exact ⟨by rw [hplus_out q]; exact this.1, this.2⟩
  · cases q : cv a with
    | some o => rw [hplus_in q]; exact Option.some_ne_none _
    | none => rw [hplus_out q]; exact s.still a (by rw [hminus_out q]; exact h)
end
abbrev LM := Ow → QD → QX → Prop
/-- the lambda l, called at the place B -/
def ActV (P : Program) (w : World) (K : PySem.W.Frag) (mg : Str → Option Value) (base : Heap) (k : Nat) (B : Bo) (l : LamD) (m : LM) : Prop :=
  ∀ (f : Addr) (A : Around) (outer : List Env) (s : Shared) (H G : Hp) (O : Ow) (Q : VK) (E : XK), Room k A → Env0 P w K mg base A outer s H → Good K B O G H → Rp K G (.ref f) (.lam l) → m O (kv K B O G H Q) (kx K B O G H E) →
    codeAny (model P w) A (.call (.ref f) ⟨[], []⟩) (CR (L2.CX P w) outer P w H s Q E) s
/-- what cv knows of X's cells -/
structure CvX (X : Cx) (σ : L2.St) (cv : Cv) : Prop where
  cell : ∀ y c, X.env.cells.lookup y = some c → ∃ o v, cv c = some o ∧ o.data = .cell v
  val : ∀ (i : Nat) (y : Str) (v : V), X.N[i]? = some y → σ[i]? = some (some v) → (X.env.scope.names.lookup y = some .cell ∨ X.env.scope.names.lookup y = some .free) → ∃ c o u, X.env.cells.lookup y = some c ∧ cv c = some o ∧ o.data = .cell (some u) ∧ RelV v u
/-- the datum of a lambda of X -/
def lamOf (X : Cx) (params : Arguments) (body : Expr) (scope : Scope) : LamD := ⟨X.env.qual ++ "<lambda>", params, body, scope, cloFrom X.env.cells scope.names []⟩
theorem act_of {X : Cx} {σ : L2.St} {ρ : Slots} {cv : Cv} {B : Bo} {G0 : Hp} {params : Arguments} {body : Expr} {scope : Scope} {k : Nat} {m : DE} (ok : X.Ok) (len : σ.length = X.N.length) (L : LamW X.N X.env.scope scope) (C : CvX X σ cv) (hc : CvC cv) (rs : RpS X.K G0 σ ρ) (n0 : ∀ a o, cv a = some o → G0 a = none) (am : Sub B.amb G0)
    (hbody : ∀ (A : Around) (outer : List Env) (s : Shared) (H : Hp) (E : XK) (f c' : Addr), Room k (A.deeper (lamEnv X scope s.heap.objs.size f c')) → DPE (lamCx X A outer s H E scope f c') ⟨B, fun _ => E⟩ body m) :
    ActV X.prog X.w X.K X.mg X.base (k + 1) ⟨B.bx, hplus G0 cv⟩ (lamOf X params body scope) (fun O Q E => m ρ O Q E) := by
  intro f A outer s H G O Q E hr e0 g rl h
  have sb : Sub (hplus G0 cv) G := g.amb
  have hs : Has G cv := fun a o e => sb _ _ (hplus_in e)
  have hH : Has H cv := Has.sub g.sub hs
  have hg := has_get e0.hok hH
  have e1 := env_minus e0 hH
  have fr : ∀ a o, cv a = some o → a ∉ frs outer := fun a o e hm => by have := e0.frf a hm; rw [hH a o e] at this; cases this
  refine codeAny_mono ?_ fun r s' c => cr_plus hH e0.hok fr c
  have CA : CellsAt X σ (hminus H cv) s.heap := ⟨fun y c e => by
      obtain ⟨o, v, h1, h2⟩ := C.cell y c e
      exact ⟨⟨v, o, hg c o h1, h2⟩, hminus_in h1⟩, fun i y v e1 e2 e3 => by
      obtain ⟨c, o, u, h1, h2, h3, h4⟩ := C.val i y v e1 e2 e3
      exact ⟨c, u, h1, h4, o, hg c o h2, h3⟩⟩
  have lim : s.heap.NoLimit := e0.mod.nolimit.keeps fun b o e => (e0.bs b o e).1
  have mo : Mo m := (hbody A outer s H E f 0 (by
    have := hr.deeper (lamEnv X scope s.heap.objs.size f 0)
    exact this)).mo
  cases rl with
  | @lam _ c _ fd hf hcode hfd =>
    obtain ⟨dV, doc, pm, ctv, binds, efd, hl, hb⟩ := hfd
    have hb' : BindsTo s fd ⟨[], []⟩ binds := by
      rcases hb with hb | ⟨t, o, its, n, h1, h2, h3⟩
      · exact hb s
      · exact h3 s ((e0.hok t _ (g.sub _ _ h1)).1)
    subst efd
    have hf' := (e0.hok f _ (g.sub _ _ hf)).1
    have s0 : Sub G0 (hminus G cv) := fun a u e => by
      have q : cv a = none := by
        cases q : cv a with
        | none => rfl
        | some o => rw [n0 a o q] at e; cases e
      rw [hminus_out q]
      exact sb a u (by rw [hplus_out q]; exact e)
    refine lam_run (k := k) (tb := up X.K B (fun _ => fun cls d H' => (∀ a o, cv a = some o → H' a = none) → E cls d (hplus H' cv)) m) ok len L CA e1 hr lim hf' (keep_minus hH (g.sub _ _ hcode) (fun o z => by unfold CodeO at z; cases z)) hb' hl (fun hr2 => (hbody A outer s (hminus H cv) _ f c hr2).run) ⟨hminus G cv, O, ρ, good_minus (B := ⟨B.bx, hplus G0 cv⟩) (B' := B) rfl g hs hc (am.trans s0), rs.mono s0, mo _ _ _ _ _ _ (fun d O1 z v G' H' st rv hn => ?_) (fun x O1 z d fs G' H' st ed rf hn => ?_) h⟩
    · have st2 := step_plus (B := ⟨B.bx, hplus G0 cv⟩) (B' := B) rfl g hs st hn
      exact z v _ _ st2 (rv.mono (sub_plus fun a o e => st.good.freshG (hn a o e)))
    · have st2 := step_plus (B := ⟨B.bx, hplus G0 cv⟩) (B' := B) rfl g hs st hn
      have sp : Sub G' (hplus G' cv) := sub_plus fun a o e => st.good.freshG (hn a o e)
      exact z d fs _ _ st2 (sp _ _ ed) (rf.mono sp)
end EV
set_option Elab.async false
set_option linter.all false
set_option maxRecDepth 100000
set_option maxHeartbeats 4000000
namespace EV
open PySem PySem.Spec PyProof.Rows L2 LamX
open Classical in
noncomputable def cvOf (X : Cx) (h : Heap) : Cv := fun c => if ∃ y, X.env.cells.lookup y = some c then h.get? c else none
section
variable {X : Cx} {pins : List (Addr × Obj)} {σ : L2.St} {H : Hp} {s : Shared}
theorem cvOf_in {h : Heap} {y : Str} {c : Addr} (e : X.env.cells.lookup y = some c) : cvOf X h c = h.get? c := by
  unfold cvOf; rw [if_pos ⟨y, e⟩]
theorem cvOf_out {h : Heap} {c : Addr} {o : Obj} (e : cvOf X h c = some o) : ∃ y, X.env.cells.lookup y = some c ∧ h.get? c = some o := by
  unfold cvOf at e
  split at e
  · rename_i q
    obtain ⟨y, q⟩ := q
    exact ⟨y, q, e⟩
  · cases e
theorem cv_c (I : Inv X pins σ H s) : CvC (cvOf X s.heap) := fun a o e => by
  obtain ⟨y, h1, h2⟩ := cvOf_out e
  obtain ⟨v, o', h3, h4⟩ := I.cell y a h1
  rw [h2] at h3; cases h3
  exact ⟨v, h4⟩
theorem cv_x (I : Inv X pins σ H s) : CvX X σ (cvOf X s.heap) := by
  refine ⟨fun y c e => ?_, fun i y v e1 e2 e3 => ?_⟩
  · obtain ⟨v, o, h1, h2⟩ := I.cell y c e
    exact ⟨o, v, by rw [cvOf_in e]; exact h1, h2⟩
  · obtain ⟨m, hn, hl⟩ := I.loc
    obtain ⟨u, ru, q⟩ := hl i y v e1 e2 (.inr e3)
    rcases q with ⟨k, _⟩ | ⟨_, c, hc, o, h1, h2⟩
    · have k : X.env.scope.names.lookup y = some .local := k
      rcases e3 with e | e <;> rw [e] at k <;> cases k
    · exact ⟨c, o, u, hc, by rw [cvOf_in hc]; exact h1, h2, ru⟩
theorem cv_ok (I : Inv X pins σ H s) (hfn : ∀ y, X.fn y = true) : CvOk X.base X.stack H s.heap (cvOf X s.heap) := by
  have big : ∀ a o, cvOf X s.heap a = some o → X.s_0.heap.objs.size ≤ a := fun a o e => by
    obtain ⟨y, h1, _⟩ := cvOf_out e
    exact I.ok.cab y a (hfn y) h1
  refine ⟨fun a o e => ?_, fun a o e => ?_, fun a o e hm => ?_, fun a o e => ?_⟩
  · obtain ⟨y, h1, _⟩ := cvOf_out e
    exact I.freeC y a h1
  · exact (cvOf_out e).choose_spec.2
  · obtain ⟨y, h1, _⟩ := cvOf_out e
    rcases List.mem_cons.mp (I.stkSub a hm) with z | z
    · exact I.cne y a h1 z
    · obtain ⟨_, o', h2, _⟩ := I.ok.funs.mem z
      exact absurd (Heap.lt_size h2) (Nat.not_lt.mpr (big a o e))
  · cases q : X.base.get? a with
    | none => rfl
    | some u => exact absurd (Heap.lt_size q) (Nat.not_lt.mpr (Nat.le_trans I.ok.bsz (big a o e)))
end
/-- a step with cv's entries, seen without -/
theorem step_minus {K : PySem.W.Frag} {B B' : Bo} {O O' : Ow} {G H G' H' : Hp} {cv : Cv} (n : ∀ a o, cv a = some o → H a = none) (g : Good K B O G H) (hc : CvC cv) (eb : B.bx = B'.bx) (s : Step K B' O (hplus G cv) (hplus H cv) O' G' H') : Step K B O G H O' (hminus G' cv) (hminus H' cv) := by
  have hs : Has G' cv := fun a o e => s.grow _ _ (hplus_in e)
  have out : ∀ {a : Addr} {u : HO}, H a = some u → cv a = none := fun {a u} e => by
    cases q : cv a with
    | none => rfl
    | some o => rw [n a o q] at e; cases e
  have gr : Sub G (hminus G' cv) := fun a u e => by
    have q := out (g.sub _ _ e)
    rw [hminus_out q]; exact s.grow a u (by rw [hplus_out q]; exact e)
  refine ⟨gr, good_minus eb s.good hs hc (g.amb.trans gr), fun a u e nb nO => ?_, fun a u e eG nO => ?_, fun a h => ?_⟩
  · have q := out e
    rw [hminus_out q]; exact s.keep a u (by rw [hplus_out q]; exact e) (fun ⟨b', l', T', e', h⟩ => nb ⟨b', l', T', eb.trans e', h⟩) nO
  · have q := out e
    have := s.hid a u (by rw [hplus_out q]; exact e) (by rw [hplus_out q]; exact eG) nO
    exact ⟨by rw [hminus_out q]; exact this.1, this.2⟩
  · cases e : H a with
    | none => exact absurd e h
    | some u =>
      have q := out e
      rw [hminus_out q]; exact s.still a (by rw [hplus_out q, e]; exact Option.some_ne_none _)
def MoL (m : LM) : Prop := ∀ O Q Q' E E', (∀ d O, Q d O → Q' d O) → (∀ x O, E x O → E' x O) → m O Q E → m O Q' E'
def spL (K : PySem.W.Frag) (B : Bo) (sp : DSp) : Sp := fun vs H Q E => ∃ G O ds, Good K B O G H ∧ RpL K G vs ds ∧ spM sp ds O (kv K B O G H Q) (kx K B O G H E)
abbrev LR := LamD → LM → Prop
/-- a def that takes lambdas: S, what it promises over what the lambdas do -/
def FnL (P : Program) (w : World) (K : PySem.W.Frag) (mg : Str → Option Value) (base : Heap) (j k : Nat) (f : Addr) (fd : FuncData) (ps : List Str) (S : LR → DSp) : Prop :=
  ∀ (B : Bo) (R : LR), (∀ l m, R l m → ActV P w K mg base j B l m ∧ MoL m) → FnOk P w K mg base CX0 k f fd ps (spL K B (S R))
/-- lambdas of X and their readings -/
def LamsOf (X : Cx) (B : Bo) (j : Nat) (T : LamD → DE → Prop) : Prop := ∀ l m, T l m → ∃ params body scope, l = lamOf X params body scope ∧ LamW X.N X.env.scope scope ∧ Mo m ∧
  ∀ (A : Around) (outer : List Env) (s : Shared) (H : Hp) (E : XK) (f c' : Addr), Room j (A.deeper (lamEnv X scope s.heap.objs.size f c')) → DPE (lamCx X A outer s H E scope f c') ⟨B, fun _ => E⟩ body m
def atR (T : LamD → DE → Prop) (ρ : Slots) : LR := fun l lm => ∃ m, T l m ∧ lm = fun O Q E => m ρ O Q E
abbrev dCallL (S : LR → DSp) (T : LamD → DE → Prop) (mA : DA) : DE := fun ρ O Q E => mA ρ O (fun ds O1 => spM (S (atR T ρ)) ds O1 Q E) E
section
variable {X : Cx} {L : Pl} {e : Expr} {es : List Expr} {mA : DA} {p pos : Pos}
theorem d_callL {j k : Nat} {f : Addr} {fd : FuncData} {ps : List Str} {S : LR → DSp} {T : LamD → DE → Prop} {x : Str} (Fn : FnL X.prog X.w X.K X.mg X.base (j + 1) k f fd ps S) (hT : LamsOf X L.B j T) (hfn : ∀ y, X.fn y = true) (hr : Room k X.A) (hg : Gl X x) (hm : X.mg x = some (.ref f)) (hk : PySem.W.keepIn X.K (.ref f) = true) (hb : Binds X.K fd ps [])
    (ha : DPA X L (e :: es) mA) (hdb : (x == ("__debug__" : Str)) = false) (he : starEach (e :: es) X.env = (false, eval e X.env) :: starEach es X.env) (hpl : (backTo pos (starEach es X.env)).any (·.1) = false) :
    DPE X L (.Call (.Name x p) (e :: es) [] pos) (dCallL S T mA) := by
  refine ⟨fun ρ O Q Q' E E' q hx z => ha.mo ρ _ _ _ _ _ (fun _ _ y => spM_mo q hx y) hx z, ⟨fun pins s σ H Q I ⟨G, O, ρ, g, rs, q⟩ => ?_⟩⟩
  refine wpAny_Call_Name_kw (ld_glob I hg hm ?_ hdb)
  refine PySem.W.callWith_K (h₀ := X.base) I.ok.mod.kin hk (thn (ha.run.run pos pins s σ H (fun vs H1 => ∃ G1 O1 ds, Step X.K L.B O G H O1 G1 H1 ∧ RpL X.K G1 vs ds ∧ spM (S (atR T ρ)) ds O1 (kv X.K L.B O G H Q) (kx X.K L.B O G H (L.W σ))) I ⟨G, O, ρ, g, rs, ha.mo _ _ _ _ _ _ (fun ds O1 z vs G1 H1 s1 r1 => ⟨G1, O1, ds, s1, r1, z⟩) (fun _ _ z => z) q⟩) fun us s1 ⟨vs, H1, I1, r, G1, O1, ds, st, r1, q1⟩ => ⟨I1.kIn, ?_⟩) he hpl
  -- the cells are tracked
  have cvo := cv_ok I1 hfn
  have hc := cv_c I1
  have n0 : ∀ a o, cvOf X s1.heap a = some o → G1 a = none := fun a o e => st.good.freshG (cvo.un a o e)
  have sp : Sub G1 (hplus G1 (cvOf X s1.heap)) := sub_plus n0
  have F := Fn ⟨L.B.bx, hplus G1 (cvOf X s1.heap)⟩ (atR T ρ) (fun l lm ⟨m, tm, e⟩ => by
    obtain ⟨params, body, scope, el, LW, mo, hbody⟩ := hT l m tm
    subst e el
    exact ⟨act_of I1.ok I1.len LW (cv_x I1) hc (rs.step st) n0 st.good.amb hbody, fun O Q Q' E E' h1 h2 z => mo _ _ _ _ _ _ h1 h2 z⟩)
  have g2 : Good X.K ⟨L.B.bx, hplus G1 (cvOf X s1.heap)⟩ O1 (hplus G1 (cvOf X s1.heap)) (hplus H1 (cvOf X s1.heap)) := by
    have nH := cvo.un
    have sH : Sub H1 (hplus H1 (cvOf X s1.heap)) := sub_plus nH
    refine ⟨fun a u e => ?_, fun b l T e => ?_, Sub.refl _, fun p d e => ?_⟩
    · cases q : cvOf X s1.heap a with
      | some o => rw [hplus_in q] at e ⊢; exact e
      | none => rw [hplus_out q] at e ⊢; exact st.good.sub a u e
    · refine (st.good.box b l T e).step sp (fun a ha => ?_) fun a o _ h => sH _ _ h
      have ha : Hid L.B a := ⟨b, l, T, e, ha⟩
      obtain ⟨u, hu, _⟩ := st.good.hidH ha
      have q : cvOf X s1.heap a = none := by
        cases q : cvOf X s1.heap a with
        | none => rfl
        | some o => rw [nH a o q] at hu; cases hu
      rw [hplus_out q]; exact st.good.hidG ha
    · obtain ⟨a, b, c⟩ := st.good.own p d e
      obtain ⟨u, hu⟩ := c.some_of
      have q : cvOf X s1.heap p = none := by
        cases q : cvOf X s1.heap p with
        | none => rfl
        | some o => rw [nH p o q] at hu; cases hu
      exact ⟨by rw [hplus_out q]; exact a, b, c.mono sp fun u h => sH _ _ h⟩
  have hl : us.length = ps.length := by
    rw [← r.length]
    obtain ⟨Q0, E0, h0, h1, h2⟩ := q1
    exact F.len vs (hplus H1 (cvOf X s1.heap)) (fun _ _ => True) (fun _ _ _ => True) ⟨_, O1, ds, g2, r1.mono sp, Q0, E0, h0, fun _ _ _ _ _ _ _ _ => trivial, fun _ _ _ _ _ _ _ _ _ _ => trivial⟩
  have bd := hb s1 us I1.kIn (by rw [List.append_nil]; exact hl)
  rw [List.append_nil] at bd
  refine wpAny_call (codeAny_mono (F.run X.A X.stack s1 (hplus H1 (cvOf X s1.heap)) ⟨us, []⟩ us vs (fun v H' => Q v (hminus H' (cvOf X s1.heap))) (fun cls d H' => L.W σ cls d (hminus H' (cvOf X s1.heap))) hr (env_plus I1.env0 cvo) bd r
    ⟨_, O1, ds, g2, r1.mono sp, spM_mo (fun d O' z v G' H' t rv => ?_) (fun x O' z d fs G' H' t ed rf => ?_) q1⟩) fun r s' hq => ?_)
  · have hs : Has G' (cvOf X s1.heap) := fun a o e => t.grow _ _ (hplus_in e)
    exact z v _ _ (st.trans (step_minus (B := L.B) (B' := ⟨L.B.bx, hplus G1 (cvOf X s1.heap)⟩) cvo.un st.good hc rfl t)) (rv.minus hs hc)
  · have hs : Has G' (cvOf X s1.heap) := fun a o e => t.grow _ _ (hplus_in e)
    exact z d fs _ _ (st.trans (step_minus (B := L.B) (B' := ⟨L.B.bx, hplus G1 (cvOf X s1.heap)⟩) cvo.un st.good hc rfl t)) (keep_minus hs ed (fun o z => by cases z)) (rf.minus hs hc)
  · cases r with
    | error e => exact (show False from hq).elim
    | ok fl =>
      cases fl with
      | ret u =>
        obtain ⟨v, H', os, ag, un, hk, rv, q⟩ := hq
        have hs : Has H' (cvOf X s1.heap) := fun a o e => un.frzs a o _ (hplus_in e)
        exact I1.after ⟨v, hminus H' (cvOf X s1.heap), os, ag, un_minus un cvo.un cvo.get cvo.fr hk, hok_minus hk hs, rv, q⟩
      | next => exact False.elim hq
      | brk => exact False.elim hq
      | cont => exact False.elim hq
end
end EV
set_option Elab.async false
set_option linter.all false
set_option maxRecDepth 100000
set_option maxHeartbeats 4000000
namespace EV
open PySem PySem.Spec PyProof.Rows L2 LamX
section
variable {K : PySem.W.Frag} {B : Bo} {O : Ow} {G H : Hp}
/-- a lambda is made: by value -/
theorem lam_step {b lx P c' f : Addr} {T : List (Addr × Str)} {q : Str} {H1 : Hp} {fo : Obj} (hB : B.bx = some (b, lx, T)) (hm : (P, q) ∈ T) (hu : ∀ p ∈ T, p.1 = P → p.2 = q) (g : Good K B O G H) {pos : Pos} (mt : MadeT H H1 P c' q pos) (tb : Tabs T H1) (nf : H1 f = none) :
    ∃ G', Step K B O G H O G' (upd H1 f (.frz fo (.own 0))) ∧ G' f = some (.frz fo (.own 0)) ∧ G' c' = some (CodeO c' q) := by
  rcases mt with ⟨rfl, hc, ps0, hP0, ha0⟩ | ⟨ps, more, hP, nc, rfl, ha⟩
  · have hit : G c' = some (CodeO c' q) := by
      obtain ⟨ps, a1, a2, a3⟩ := (g.box b lx T hB).tab (P, q) hm
      have a1 : H1 P = some (.tbl ps) := a1
      rw [hP0] at a1; cases a1
      obtain ⟨c, e1, e2⟩ := a3 pos _ ha0
      cases e1
      exact e2
    have s := Step.new (o := .frz fo (.own 0)) g nf
    exact ⟨_, s, upd_same, s.grow _ _ hit⟩
  · have hidP : Hid B P := ⟨b, lx, T, hB, .inr ⟨(P, q), hm, rfl⟩⟩
    have nPc : P ≠ c' := fun z => by rw [z, nc] at hP; cases hP
    have st : Step K B O G H O (upd G c' (CodeO c' q)) (upd (upd H P (.tbl (ps ++ more))) c' (CodeO c' q)) := by
      have k : ∀ {a : Addr} {u : HO}, H a = some u → a ≠ P → upd (upd H P (.tbl (ps ++ more))) c' (CodeO c' q) a = some u := fun {a u} e n => by
        rw [upd_ne (fun z => by rw [z, nc] at e; cases e), upd_ne n]; exact e
      have nG : G c' = none := g.freshG nc
      have sG : Sub G (upd G c' (CodeO c' q)) := fun a u e => by rw [upd_ne (fun z => by rw [z, nG] at e; cases e)]; exact e
      have gP : G P = none := g.hidG hidP
      refine ⟨sG, ⟨fun a u e => ?_, fun b' l' T' e => ?_, g.amb.trans sG, fun p d e => ?_⟩, fun a u e n _ => k e (fun z => n (by rw [z]; exact hidP)), fun a u e z n => ⟨by rw [upd_ne (fun z => by rw [z, nc] at e; cases e)]; exact z, n⟩, fun a h => upd_still a (upd_still a h)⟩
      · by_cases z : a = c'
        · subst z; rw [upd_same] at e ⊢; exact e
        · rw [upd_ne z] at e
          exact k (g.sub a u e) (fun z => by rw [z, gP] at e; cases e)
      · rw [hB] at e
        cases e
        obtain ⟨h1, ⟨ns, i, r, m, c, h2, h3, h4⟩, h5, h6⟩ := g.box b lx T hB
        refine ⟨by rw [upd_ne (fun z => by rw [z, nc] at h2; cases h2)]; exact h1, ⟨ns, i, r, m, c, k h2 (fun z => by rw [z, hP] at h2; cases h2), sG.sqL h3, h4⟩, fun p hp => ?_, fun p hp => ?_⟩
        · obtain ⟨ps', a1, a2, a3⟩ := tb p hp
          refine ⟨ps', a1, a2, fun pos cv hcv => ?_⟩
          obtain ⟨ps2, b1, b2, b3⟩ := h5 p hp
          by_cases hp1 : p.1 = P
          · rw [hp1, upd_ne nPc, upd_same] at a1
            cases a1
            rw [hp1, hP] at b1
            cases b1
            rcases ha pos cv hcv with z | rfl
            · obtain ⟨c0, e0, z⟩ := b3 pos cv z
              exact ⟨c0, e0, sG _ _ z⟩
            · exact ⟨c', rfl, by rw [hu p hp hp1]; exact upd_same⟩
          · rw [k b1 hp1] at a1
            cases a1
            obtain ⟨c0, e0, z⟩ := b3 pos cv hcv
            exact ⟨c0, e0, sG _ _ z⟩
        · rw [upd_ne (fun z => by obtain ⟨ps', a1, _⟩ := h5 p hp; rw [z, nc] at a1; cases a1)]; exact h6 p hp
      · obtain ⟨a1, b1, c1⟩ := g.own p d e
        obtain ⟨u, hu'⟩ := c1.some_of
        exact ⟨by rw [upd_ne (fun z => by rw [z, nc] at hu'; cases hu')]; exact a1, b1, c1.mono sG fun u h => k h (fun z => b1 (by rw [z]; exact hidP))⟩
    have s2 := Step.new (o := .frz fo (.own 0)) st.good nf
    exact ⟨_, st.trans s2, upd_same, s2.grow _ _ upd_same⟩
end
section
variable {X : Cx} {L : Pl} {params : Arguments} {body : Expr} {scope : Scope} {pos : Pos}
/-- where lambdas are made: the maker's code, its table -/
structure LamAt (X : Cx) (L : Pl) : Prop where
  ex : ∃ b lx T c P, L.B.bx = some (b, lx, T) ∧ TabB X.base X.mg c P ∧ X.env.code = .ref c ∧ (P, X.env.qual ++ "<lambda>") ∈ T ∧ ∀ p ∈ T, p.1 = P → p.2 = X.env.qual ++ "<lambda>"
theorem d_lam (TA : LamAt X L) (LW : LamW X.N X.env.scope scope) (hdef : defaultsOf params X.env = ([], [])) (hbind : ∀ (q : Str) (cl : List (Str × Addr)) (doc pm cv ctv : Value), bindArgs (PySem.W.kdv_fn "<lambda>" q params (.expr body) scope cl .none doc pm cv ctv) ⟨[], []⟩ = pure []) :
    DPE X L (.Lambda params body scope pos) (dC (.lam (lamOf X params body scope))) := by
  obtain ⟨b, lx, T, c, P, hB, TB, hcode, hm, hu⟩ := TA.ex
  refine ⟨mo_c _, ⟨fun pins s σ H Q I ⟨G, O, ρ, g, rs, q⟩ => ?_⟩⟩
  refine PySem.W.kla_eval hdef ?_
  rw [makeFunction_eq]
  simp only [List.zip_nil_right, List.filterMap_nil, List.isEmpty_nil, if_true, pure_bind]
  refine lam_tail I TB hcode hm hu ((g.box b lx T hB).tab.tabs g.sub) (LW.has I.ok) fun f c' doc pm ctv H1 s' mt tb nf I1 => ?_
  obtain ⟨G', st, g1, g2⟩ := lam_step hB hm hu g mt tb nf
  exact ⟨.ref f, _, I1, rfl, q _ _ _ st (.lam g1 g2 ⟨.none, doc, pm, ctv, [], rfl, fun y hy => by simp at hy, .inl fun s => .of_eq (hbind _ _ _ _ _ _)⟩)⟩
/-- one parameter with a written int: lambda u=i: body -/
theorem d_lam1 {u : Str} {i : Int} {j0 : Nat} {p0 : Pos} (TA : LamAt X L) (LW : LamW X.N X.env.scope scope) (hd : params.defaults = [.Constant (.int i) j0 p0]) (hk : params.kw_defaults = []) (hloc : scope.names.lookup u = some .local)
    (hbind : ∀ (q : Str) (cl : List (Str × Addr)) (dV doc pm cv ctv : Value), ∃ k : Option (Array Value) → Sem (List (Str × Value)), bindArgs (PySem.W.kdv_fn "<lambda>" q params (.expr body) scope cl dV doc pm cv ctv) ⟨[], []⟩ = seqItems? dV >>= k ∧ ∀ v, k (some [v].toArray) = pure [(u, v)]) :
    DPE X L (.Lambda params body scope pos) (dC (.lam (lamOf X params body scope))) := by
  obtain ⟨b, lx, T, c, P, hB, TB, hcode, hm, hu⟩ := TA.ex
  refine ⟨mo_c _, ⟨fun pins s σ H Q I ⟨G, O, ρ, g, rs, q⟩ => ?_⟩⟩
  refine PySem.W.kdv_lam (by rw [hd]; rfl) hk ?_
  rw [hd]
  refine PySem.W.kdv_all1 (thn (pe_int.run pins s σ H (fun v H' => H' = H) I rfl) fun v s1 ⟨x, H', I1, rv, e⟩ => PySem.W.kdv_all0 ?_)
  subst e
  rw [makeFunction_eq]
  simp only [List.zip_nil_right, List.filterMap_nil, List.isEmpty_nil, if_true, pure_bind, List.isEmpty_cons, Bool.false_eq_true, if_false]
  refine wpAny_bind (wpAny_newTextTuple ?_)
  have I2 := lay_frz (t' := s1.toks) (o := PySem.W.kdv_tup [v]) I1 (h' := s1.heap.push (PySem.W.kdv_tup [v])) (fun b u e => Heap.get?_push_of_some _ e) (Nat.le_refl _) (Heap.get?_push_size _ rfl)
  have s0 := Step.new (o := .frz (PySem.W.kdv_tup [v]) (.own 0)) g (I1.hok.fresh (Nat.le_refl _))
  refine lam_tail I2 TB hcode hm hu ((s0.good.box b lx T hB).tab.tabs s0.good.sub) (LW.has I.ok) fun f c' doc pm ctv H1 s' mt tb nf I3 => ?_
  obtain ⟨G', st, g1, g2⟩ := lam_step hB hm hu s0.good mt tb nf
  obtain ⟨k, k1, k2⟩ := hbind (X.env.qual ++ "<lambda>") (cloFrom X.env.cells scope.names []) (.ref s1.heap.objs.size) doc pm (.ref c') ctv
  refine ⟨.ref f, _, I3, rfl, q _ _ _ (s0.trans st) (.lam g1 g2 ⟨_, doc, pm, ctv, [(u, v)], rfl, fun y hy => ?_, .inr ⟨_, _, _, _, st.grow _ _ upd_same, rfl, fun s hs => BindsTo.of_defaults rfl hs rfl k1 (k2 v)⟩⟩)⟩
  simp only [List.mem_cons, List.not_mem_nil, or_false] at hy
  subst hy
  exact hloc
end
end EV
set_option Elab.async false
set_option linter.all false
set_option maxRecDepth 100000
set_option maxHeartbeats 4000000
namespace L2
open PySem PySem.Spec PyProof.Rows
theorem flying_keeps {B : Heap} {l : List Env} {a : Addr} {Z : Obj → Prop} {h h' : Heap} (f : HandSPX.FlyingZ B l a Z h) (k : ∀ b o, h.get? b = some o → h'.get? b = some o) : HandSPX.FlyingZ B l a Z h' := by
  obtain ⟨f1, f2, f3, oe, vs, T, oT, ts, h1, h2, h3, h4, h5, h6, h7, h8, h9⟩ := f
  exact ⟨fun b o e => k b o (f1 b o e), f2, f3.of_keeps fun b o e _ => ⟨o, k b o e, rfl⟩, oe, vs, T, oT, ts, k _ _ h1, h2, h3, h4, h5, h6, k _ _ h7, h8, h9⟩
/-- what the clause wishes -/
def wAs3 (K : PySem.W.Frag) (c1 c2 c3 : Value) (i : Nat) (ts : Addr → Value → Option Addr → TS) (D : Ends) : WX := fun cls d σ H =>
  PySem.W.exmAny K cls [c1, c2, c3] = some true ∧ ∀ a, H a = none → ts a cls d { nx := fun σ' H' => D.nx (σ'.set i none) H', rt := D.rt, bk := fun σ' H' => D.bk (σ'.set i none) H', ct := fun σ' H' => D.ct (σ'.set i none) H' } (σ.set i (some (.ref a))) H
section
variable {X : Cx} {x1 x2 x3 n : Str} {c1 c2 c3 : Value} {i : Nat} {body suite : List Stmt} {b₀ : Stmt} {p1 p2 p3 tpos pos pos' : Pos} {kk : Nat} {tb : WX → TS} {ts : Addr → Value → Option Addr → TS}
theorem ps_try_as3 (hs : X.stack = X.env :: X.outer) (hf : X.env.frame = some X.env.locals) (hN : X.N.Nodup) (hi : X.N[i]? = some n) (hln : X.env.kindOf n = some .local) (h1 : Gl X x1 ∧ X.mg x1 = some c1 ∧ (x1 == ("__debug__" : Str)) = false) (h2 : Gl X x2 ∧ X.mg x2 = some c2 ∧ (x2 == ("__debug__" : Str)) = false) (h3 : Gl X x3 ∧ X.mg x3 = some c3 ∧ (x3 == ("__debug__" : Str)) = false)
    (hb : ∀ (W : WX) (pn : List (Addr × Obj)) (xe : Value → Shared → Prop), Takes (X.tr pn xe) W → PassesOwn (model X.prog X.w) X.A X.env xe → PSs (X.tr pn xe) body (tb W))
    (hsu : ∀ (a : Addr) (oe : Obj) (cls : Value) (d : Option Addr) (pn : List (Addr × Obj)), Zc cls d oe → (∃ vs, oe.data = .fields vs) → X.base.get? a = none → PSs (X.suite a ((a, oe) :: pn)) (b₀ :: suite) (ts a cls d)) :
    PS X (.Try body [.ExceptHandler (some (.Tuple [.Name x1 p1, .Name x2 p2, .Name x3 p3] kk tpos)) (some n) (b₀ :: suite) pos'] [] [] pos) (fun D σ H => tb (wAs3 X.K c1 c2 c3 i ts D) D σ H) := by
  refine ⟨fun pins s σ H D I h => ?_⟩
  have ok := I.ok
  have hfr : X.A.frames = some (X.env :: X.outer) := by rw [ok.frames, hs]
  have hloc : Loc X.env.scope n := .inl hln
  refine wpAny_Try_except ?_
  refine wpAny_mono ((hb (wAs3 X.K c1 c2 c3 i ts D) (X.pn ++ pins) (fun e s₁ => wpAny (model X.prog X.w) X.A (noteFrame e X.env) (fun _ s₂ => wpAny (model X.prog X.w) X.A (setFlight e none) (fun _ s₃ =>
    wpAny (model X.prog X.w) X.A (handleBy e X.env [.ExceptHandler (some (.Tuple [.Name x1 p1, .Name x2 p2, .Name x3 p3] kk tpos)) (some n) (b₀ :: suite) pos']) (SP X pins D) X.xe s₃) X.xe s₂) X.xe s₁) (fun u s' xx => ?_) PassesOwn.looking).run [] s σ H D (I.toTry _) h) (fun f s1 hsp => ?_) (fun e s1 he => he)
  · -- the catch
    obtain ⟨a, B, sI, pins', σ', H', cls, d, rfl, J', nb, up, sky, na, os, ag, hb1, hyes⟩ := xx
    have J : Inv X pins σ' H' sI := J'.ofTry ok
    have sky' : Sky B (X.env :: X.outer) a (Zc cls d) X.env.locals s'.heap := by rw [← hs]; exact sky
    show wpAny (model X.prog X.w) X.A (noteFrame (.ref a) X.env) _ _ _
    refine Sky.land Zc.steady hfr hf sky' fun h3' fl3 up3 => ?_
    have J3 : Inv X pins σ' H' { s' with heap := h3' } := J.landed nb fl3.1 (up.trans up3) os ag
    obtain ⟨oe3, vs3, he3, hz3, hd3⟩ := fl3.there
    have notFr : ∀ {h : Heap} {o : Obj} {vs : Array Value}, h.FunFrames B (X.env :: X.outer) → h.get? a = some o → o.data = .fields vs → a ∉ frs (X.env :: X.outer) := fun {h o vs} ff e dd hm => by
      obtain ⟨_, o', e', hnf⟩ := ff.mem hm
      rw [e] at e'; cases e'
      exact hnf _ dd
    have nfr := notFr fl3.2.2.1 he3 hd3
    have nL : a ≠ X.env.locals := fun z => nfr (List.mem_filterMap.mpr ⟨X.env, List.mem_cons_self, by rw [hf, z]⟩)
    have nF : a ∉ X.fs := fun hm => by
      obtain ⟨e, he, q⟩ := List.mem_filterMap.mp hm
      exact nfr (List.mem_filterMap.mpr ⟨e, List.mem_cons_of_mem _ he, q⟩)
    have S3 := J3.suite he3 hd3 na nL nF
    have nbase : X.base.get? a = none := by
      cases q : X.base.get? a with
      | none => rfl
      | some o =>
        have h1 := nb a o (J.bk a o q) (by rw [hs]; exact nfr)
        rw [fl3.2.1] at h1; cases h1
    refine wpAny_handleBy_cons (codeAny_handlers_test ?_) (by intro q; cases q)
    have LT : PySem.W.Looks (model X.prog X.w) h3' (typeOf (.ref a)) cls := fun A Q E s k q => wpAny_typeOf_ref (k _ _ he3) (by rw [hz3.1]; exact q)
    have ld : ∀ {x : Str} {c : Value} {np : Pos} {Q : Value → Shared → Prop} {E : Value → Shared → Prop}, (Gl X x ∧ X.mg x = some c ∧ (x == ("__debug__" : Str)) = false) → Q c { s' with heap := h3' } → wpAny (model X.prog X.w) (X.A.mark (some (.ref a))) (eval (.Name x np) X.env) Q E { s' with heap := h3' } := fun {x c np Q E} hx q =>
      ld_glob (X := X.suite a ((a, oe3) :: (X.pn ++ pins))) S3 hx.1 hx.2.1 q hx.2.2
    refine wpAny_Tuple ?_
    refine wpAny_items_cons (ld h1 ?_)
    refine wpAny_items_cons (ld h2 ?_)
    refine wpAny_items_cons (ld h3 ?_)
    refine wpAny_items_nil ⟨by size_fits, ?_⟩
    have kp : ∀ q o, h3'.get? q = some o → (h3'.push { cls := .type "tuple", data := .seq [c1, c2, c3].toArray }).get? q = some o := fun _ _ z => Heap.get?_push_of_some _ z
    refine (PySem.W.exm_tup3 (J3.kIn.keeps kp) (LT.keeps kp) (Heap.get?_push_size h3' rfl) hb1).here ?_
    have fl5 := flying_keeps fl3 kp
    have up5 : h3'.UpToSlots (h3'.push { cls := .type "tuple", data := .seq [c1, c2, c3].toArray }) := fun b o e _ => ⟨o.slots, kp b o e⟩
    refine codeAny_handlers_suite_as ?_
    refine HandSPX.lands_againZ fl5 fun h4 fl4 up4 => ?_
    have J4 : Inv X pins σ' H' { s' with heap := h4 } := J.landed nb fl4.1 (((up.trans up3).trans up5).trans up4) os ag
    obtain ⟨oe4, vs4, he4, hz4, hd4⟩ := fl4.there
    have S4 := J4.suite he4 hd4 na nL nF
    refine store_ok (X := X.suite a ((a, oe4) :: (X.pn ++ pins))) (v := .ref a) S4 hN hi hloc rfl (fun s5 S5 => ?_) (.inr hln)
    refine wpAny_mono ((hsu a oe4 cls d (X.pn ++ pins) hz4 ⟨_, hd4⟩ nbase).run [] s5 _ H' _ S5 (hyes a na)) (fun f s6 hsp => ?_) (fun _ _ z => False.elim z)
    have end_ : ∀ {σ6 : St} {H6 : Hp} {Q : Shared → Prop}, Inv (X.suite a ((a, oe4) :: (X.pn ++ pins))) [] σ6 H6 s6 → (∀ s7, Inv X pins (σ6.set i none) H6 s7 → Q s7) →
        wpAny (model X.prog X.w) X.A (do bindName X.env n .none; unbindBehindTheSuite X.env n pos') (fun _ s7 => Q s7) X.xe s6 := fun {σ6 H6 Q} S6 hq => gone_ok (S6.unsuite ok) hN hi hln hq
    cases f with
    | next =>
      obtain ⟨σ6, H6, S6, q6⟩ := hsp
      exact end_ S6 fun s7 J7 => ⟨_, _, J7, q6⟩
    | brk =>
      obtain ⟨σ6, H6, S6, q6⟩ := hsp
      exact end_ S6 fun s7 J7 => ⟨_, _, J7, q6⟩
    | cont =>
      obtain ⟨σ6, H6, S6, q6⟩ := hsp
      exact end_ S6 fun s7 J7 => ⟨_, _, J7, q6⟩
    | ret u =>
      obtain ⟨v6, σ6, H6, S6, r6, q6⟩ := hsp
      exact end_ S6 fun s7 J7 => ⟨_, _, _, J7, r6, q6⟩
  · cases f with
    | next =>
      obtain ⟨σ', H', J', q⟩ := hsp
      exact wpAny_execs_nil ⟨σ', H', J'.ofTry ok, q⟩
    | brk =>
      obtain ⟨σ', H', J', q⟩ := hsp
      exact ⟨σ', H', J'.ofTry ok, q⟩
    | cont =>
      obtain ⟨σ', H', J', q⟩ := hsp
      exact ⟨σ', H', J'.ofTry ok, q⟩
    | ret u =>
      obtain ⟨v, σ', H', J', r, q⟩ := hsp
      exact ⟨v, σ', H', J'.ofTry ok, r, q⟩
end
end L2
set_option Elab.async false
set_option linter.all false
set_option maxRecDepth 100000
set_option maxHeartbeats 4000000
namespace L2
open PySem PySem.Spec PyProof.Rows
abbrev RoomW := L2H.RoomH
def cxQ (P : Program) (w : World) (K : PySem.W.Frag) (mg : Str → Option Value) (base : Heap) (N : List Str) (qual : Str) (scope : Scope) (f : Addr) (cd : Value) (A : Around) (outer : List Env) (s : Shared) (H : Hp) (E : XK) : Cx :=
  { cxOf CX0 P w K mg base N qual scope f cd A outer s H E with calm := false }
theorem inv_startQ {P : Program} {w : World} {K : PySem.W.Frag} {mg : Str → Option Value} {base : Heap} {N ps : List Str} {qual : Str} {scope : Scope} {f : Addr} {cd : Value} {A : Around} {outer : List Env} {s s1 : Shared} {H : Hp} {E : XK} {us : List Value} {vs : List V}
    (S : FnScope N ps scope) (e0 : Env0 P w K mg base A outer s H) (hl : vs.length = ps.length) (r : Vals vs us)
    (x : InCallC s s.heap.objs.size (bindL (envOfC qual scope s.heap.objs.size f cd).kindOf (ps.zip us) fun _ => none) (cellsFrom (s.heap.objs.size + 1) scope.names []) (bindC (envOfC qual scope s.heap.objs.size f cd).kindOf (ps.zip us) fun _ => none) s1) :
    Inv (cxQ P w K mg base N qual scope f cd A outer s H E) [] (L2.start N vs) H s1 := by
  have hpl : ps.length ≤ N.length := by have := congrArg List.length S.pre; rw [List.length_take] at this; omega
  obtain ⟨h1, tk, rfl, hk⟩ := x.done
  have noA : ∀ b : Addr, b ∉ (cxQ P w K mg base N qual scope f cd A outer s H E).ex := fun b z => absurd (show b ∈ ([] : List Addr) from z) (by simp)
  refine ⟨⟨e0.mod, S.kind, rfl, rfl, Nat.le_refl _, fun y z c h1 h2 => ?_, fun y hy => ?_, fun y c _ h => ?_, (fun z => Bool.noConfusion (show false = true from z)), Around.frames_deeper e0.frames, .inr ⟨rfl, rfl⟩, fun b z => absurd z (noA b), e0.bs, e0.bsz, fun b _ _ => noA b, fun b z => absurd z (noA b), e0.funs, e0.frf⟩,
    rfl, e0.bare, Un.kept hk, ⟨_, x.toInCall.ns, fun i y v h1 h2 h3 => ?_⟩, fun y c h => ⟨_, x.cell y c h⟩, e0.hok.fresh (Nat.le_refl _), fun y c h => ?_, fun q hq => absurd (show q ∈ ([] : List (Addr × Obj)) ++ [] from hq) (by simp), e0.hok.kept hk, ?_⟩
  · exact name_of_addr x.apart (PySem.mem_of_lookup h1) (PySem.mem_of_lookup h2)
  · have hy : scope.names.lookup y = some .cell ∨ scope.names.lookup y = some .free := hy
    rcases hy with hy | hy
    · exact cell_has hy
    · exact absurd rfl (S.nofree _ (PySem.mem_of_lookup hy))
  · exact Nat.le_of_lt (x.above y c (PySem.mem_of_lookup h))
  · have hi : i < vs.length := by
      unfold L2.start at h2
      by_cases hi : i < vs.length
      · exact hi
      · rw [List.getElem?_append_right (by simpa using hi)] at h2
        rw [List.getElem?_replicate] at h2
        split at h2 <;> cases h2
    have ha : vs[i]? = some v := by
      unfold L2.start at h2
      rw [List.getElem?_append_left (by simpa using hi), List.getElem?_map] at h2
      cases e : vs[i]? with
      | none => rw [e] at h2; cases h2
      | some a => rw [e] at h2; cases h2; rfl
    obtain ⟨u, hu, rv⟩ := r.get ha
    have hp : ps[i]? = some y := by
      rw [← S.pre, List.getElem?_take_of_lt (by omega)]; exact h1
    have ndP : ps.Nodup := by rw [← S.pre]; exact S.nd.sublist (List.take_sublist _ _)
    refine ⟨u, rv, ?_⟩
    rcases S.par y (List.mem_of_getElem? hp) with k | k
    · exact .inl ⟨k, bindL_get ndP hp hu k⟩
    · obtain ⟨c, e⟩ := cell_has (n := s.heap.objs.size + 1) k
      refine .inr ⟨.inl k, c, e, ?_⟩
      have q := x.cell y c e
      rw [bindC_get ndP hp hu (by show scope.names.lookup y ≠ _; rw [k]; decide)] at q
      exact q
  · exact e0.hok.fresh (Nat.le_of_lt (x.above y c (PySem.mem_of_lookup h)))
  · unfold L2.start
    show _ = N.length
    rw [List.length_append, List.length_map, List.length_replicate]
    omega
structure FnQ (P : Program) (w : World) (K : PySem.W.Frag) (mg : Str → Option Value) (base : Heap) (k : Nat) (f : Addr) (fd : FuncData) (ps : List Str) (sp : Sp) : Prop where
  len : ∀ vs H Q E, sp vs H Q E → vs.length = ps.length
  run : ∀ (A : Around) (outer : List Env) (s : Shared) (H : Hp) (args : Args) (us : List Value) (vs : List V) (Q : VK) (E : XK), RoomW k A → Env0 P w K mg base A outer s H → BindsTo s fd args (ps.zip us) → Vals vs us → sp vs H Q E →
    codeAny (model P w) A (.call (.ref f) args) (CR CX0 outer P w H s Q E) s
section
variable {P : Program} {w : World} {K : PySem.W.Frag} {mg : Str → Option Value} {base : Heap}
theorem Fun.okQ {x qual : Str} {st : Stmt} {f : Addr} {fd : FuncData} {N ps : List Str} {k : Nat} {sp : Sp} (Fn : Fun K x qual st f fd) (S : FnScope N ps (defScope st)) (len : ∀ vs H Q E, sp vs H Q E → vs.length = ps.length)
    (hbody : ∀ (cdv : Value) (A : Around) (outer : List Env) (s : Shared) (H : Hp) (vs : List V) (Q : VK) (E : XK), RoomW k (A.deeper (envOfC qual (defScope st) s.heap.objs.size f cdv)) → sp vs H Q E →
      ∃ t, PSs (cxQ P w K mg base N qual (defScope st) f cdv A outer s H E).nox (defBody st) t ∧ t { nx := fun _ H' => Q .non H', rt := Q } (start N vs) H) : FnQ P w K mg base (k + 1) f fd ps sp := by
  obtain ⟨oc, od, kV, doc, pm, an, cdv, ct, osl, rfl, lk, hcd⟩ := Fn.ex
  refine ⟨len, fun A outer s H args us vs Q E hr e0 hb r hsp => ?_⟩
  have hl := len _ _ _ _ hsp
  have KX : K.In s.heap := e0.mod.kin.keeps fun b o e => (e0.bs b o e).1
  have lim : s.heap.NoLimit := e0.mod.nolimit.keeps fun b o e => (e0.bs b o e).1
  have hkind : ∀ y ∈ ps.zip us, (defScope st).names.lookup y.1 = some .local ∨ ((defScope st).names.lookup y.1 = some .cell ∧ ((cellsFrom (s.heap.objs.size + 1) (defScope st).names []).lookup y.1).isSome = true) := fun ⟨n, v⟩ hy => by
    rcases S.par n (List.of_mem_zip hy).1 with q | q
    · exact .inl q
    · exact .inr ⟨q, PySem.W.cellsFrom_some _ _ _ (.inl q)⟩
  refine codeAny_call_function hr.depth (KX _ _ lk) rfl S.co S.gen rfl (PySem.W.codeRec_of KX hcd) (hb _ _ _ _ ?_)
  refine wpAny_newFunctionEnv_cells S.kind hkind fun env he s1 x => ?_
  subst he
  refine ⟨lim.keeps x.toInCall.keep, codeAny_func ?_⟩
  obtain ⟨t, ht, hq⟩ := hbody cdv A outer s H vs Q E (hr.deeper _) hsp
  have I : Inv (cxQ P w K mg base N qual (defScope st) f cdv A outer s H E) [] (L2.start N vs) H s1 := inv_startQ S e0 hl r x
  refine wpAny_mono (ht.nox.run [] s1 (L2.start N vs) H _ I hq) (fun fl s' hs => ?_) fun e s' hs => hs
  have fin : ∀ {σ' : St} {H' : Hp} {v : V} {u : Value}, Inv (cxQ P w K mg base N qual (defScope st) f cdv A outer s H E) [] σ' H' s' → RelV v u → Q v H' → CE outer P w H s Q u s' :=
    fun {σ' H' v u} J rv q => ⟨v, H', J.os, J.bare, J.base, J.hok, rv, q⟩
  cases fl with
  | ret u =>
    obtain ⟨v, σ', H', J, rv, q⟩ := hs
    exact fin J rv q
  | next =>
    obtain ⟨σ', H', J, q⟩ := hs
    exact fin (v := V.non) (u := Value.none) J rfl q
  | brk =>
    obtain ⟨_, _, _, q⟩ := hs
    exact False.elim q
  | cont =>
    obtain ⟨_, _, _, q⟩ := hs
    exact False.elim q
end
end L2
namespace EV
open PySem PySem.Spec PyProof.Rows L2 LamX
section
variable {P : Program} {w : World} {K : PySem.W.Frag} {mg : Str → Option Value} {base : Heap}
/-- a def that raises nothing, called where an exception is handled -/
theorem fn_warm {x qual : Str} {st : Stmt} {f : Addr} {fd : FuncData} {N ps : List Str} {k : Nat} {sp : DSp} {ms : DS} (Fn : Fun K x qual st f fd) (S : FnScope N ps (defScope st)) (len : ∀ ds O Q E, sp ds O Q E → ds.length = ps.length)
    (hb : ∀ (cdv : Value) (A : Around) (outer : List Env) (s : Shared) (H : Hp) (E : XK), RoomW k (A.deeper (envOfC qual (defScope st) s.heap.objs.size f cdv)) →
      DPSs (cxQ P w K mg base N qual (defScope st) f cdv A outer s H E).nox ⟨bo0, fun _ _ _ _ => False⟩ (defBody st) ms)
    (h : ∀ ds O Q E, sp ds O Q E → ms (endsD Q E) (startD N ds) O) (noex : ∀ ds O Q E, sp ds O Q E → sp ds O Q fun _ _ => False) : FnQ P w K mg base (k + 1) f fd ps (spD K sp) := by
  refine Fn.okQ S (fun vs H Q E ⟨G, O, ds, g, r, Q0, E0, h0, _⟩ => ?_) (fun cdv A outer s H vs Q E hr ⟨G, O, ds, g, r, Q0, E0, h0, hq, hx⟩ => ?_)
  · rw [r.length]; exact len _ _ _ _ h0
  · have b := hb cdv A outer s H E hr
    refine ⟨_, b.run, G, O, startD N ds, g, start_rp r, b.mo (endsD Q0 fun _ _ => False) _ _ _ ⟨fun ρ O1 z σ' G' H' s _ => hq _ _ z _ G' H' s .non, fun d O1 z v G' H' s rv => hq _ _ z v G' H' s rv, fun _ _ z => z.elim, fun _ _ z => z.elim, fun x ρ _ z => z.elim⟩ (h ds O Q0 (fun _ _ => False) (noex _ _ _ _ h0))⟩
end
section
variable {K : PySem.W.Frag} {B : Bo} {O : Ow} {G H G' H' : Hp} {cv : Cv}
def noOw : Ow := fun _ => none
abbrev IsF (o : Obj) : Prop := ∃ vs, o.data = .fields vs
/-- all of it, for one who owns nothing -/
theorem good_free (g : Good K B O G H) (n : ∀ a o, cv a = some o → H a = none) : Good K bo0 noOw (hplus G cv) (hplus H cv) := by
  have nG : ∀ a o, cv a = some o → G a = none := fun a o e => g.freshG (n a o e)
  refine ⟨fun a u e => ?_, (fun _ _ _ e => nomatch e), (fun _ _ e => nomatch e), fun p d e => nomatch e⟩
  cases q : cv a with
  | some o => rw [hplus_in q] at e ⊢; exact e
  | none => rw [hplus_out q] at e ⊢; exact g.sub a u e
theorem step_free (g : Good K B O G H) (n : ∀ a o, cv a = some o → H a = none) (s : Step K bo0 noOw (hplus G cv) (hplus H cv) noOw G' H') : Step K B O G H O (hminus G' cv) (hminus H' cv) := by
  have out : ∀ {a : Addr} {u : HO}, H a = some u → cv a = none := fun {a u} e => by
    cases q : cv a with
    | none => rfl
    | some o => rw [n a o q] at e; cases e
  have kp : ∀ a u, H a = some u → hminus H' cv a = some u := fun a u e => by
    have q := out e
    rw [hminus_out q]; exact s.keep a u (by rw [hplus_out q]; exact e) no_hid rfl
  have gr : Sub G (hminus G' cv) := fun a u e => by
    have q := out (g.sub _ _ e)
    rw [hminus_out q]; exact s.grow a u (by rw [hplus_out q]; exact e)
  have hid : ∀ a u, H a = some u → G a = none → hminus G' cv a = none := fun a u e eG => by
    have q := out e
    rw [hminus_out q]; exact (s.hid a u (by rw [hplus_out q]; exact e) (by rw [hplus_out q]; exact eG) rfl).1
  refine ⟨gr, ⟨fun a u e => ?_, fun b l T e => ?_, g.amb.trans gr, fun p d e => ?_⟩, fun a u e _ _ => kp a u e, fun a u e eG nO => ⟨hid a u e eG, nO⟩, fun a h => ?_⟩
  · cases q : cv a with
    | some o => rw [hminus_in q] at e; cases e
    | none => rw [hminus_out q] at e ⊢; exact s.good.sub a u e
  · refine (g.box b l T e).step gr (fun a ha => ?_) fun a o _ h => kp a o h
    have ha : Hid B a := ⟨b, l, T, e, ha⟩
    obtain ⟨u, hu, _⟩ := g.hidH ha
    exact hid a u hu (g.hidG ha)
  · obtain ⟨a, b, c⟩ := g.own p d e
    obtain ⟨u, hu⟩ := c.some_of
    exact ⟨hid p u hu a, b, c.mono gr fun u h => kp p u h⟩
  · cases e : H a with
    | none => exact absurd e h
    | some u => rw [kp a u e]; exact Option.some_ne_none _
theorem rp_free (hs : Has G' cv) (hc : ∀ a o, cv a = some o → IsF o) {v : V} {d : D} (nx : noX d = true) (r : Rp K G' v d) : Rp K (hminus G' cv) v d :=
  Rp.part (bad := IsF) (fun a u e n => by
    cases q : cv a with
    | some o => rw [hs a o q] at e; cases e; exact absurd (hc a o q) (n o rfl)
    | none => rw [hminus_out q]; exact e) (fun _ b => .inr b) (.inr nx) r
end
end EV
set_option Elab.async false
set_option linter.all false
set_option maxRecDepth 100000
set_option maxHeartbeats 4000000
namespace EV
open PySem PySem.Spec PyProof.Rows L2 LamX
section
variable {X : Cx} {a : Addr} {oe : Obj} {cls : Value} {d : Option Addr} {pn : List (Addr × Obj)} {e : Expr} {te : TE} {pos q : Pos} {n x : Str}
/-- e.n of the error that the suite holds -/
def tXfE (K : PySem.W.Frag) (a : Addr) (cls : Value) (d : Option Addr) (f : Str) (te : TE) : TE := fun σ H Q => te σ H fun x H1 => x = .ref a ∧ ∃ (C dd : Addr) (fs : List (Str × V)) (v : V), cls = .ref C ∧ XfC K C ∧ PySem.W.findIn K (.ref C) f = some none ∧ d = some dd ∧ H1 dd = some (.xd fs) ∧ fs.lookup f = some v ∧ Q v H1
theorem pe_xfE (hz : Zc cls d oe) (hf : ∃ vs, oe.data = .fields vs) (he : PE (X.suite a ((a, oe) :: pn)) e te) (hb : attributeBase e n X.env (eval e X.env) = eval e X.env) : PE (X.suite a ((a, oe) :: pn)) (.Attribute e n pos) (tXfE X.K a cls d n te) := by
  refine ⟨fun pins s σ H Q I h => ?_⟩
  refine attr_of hb (thn (he.run pins s σ H _ I h) fun u s1 hh => ?_)
  obtain ⟨x, H1, I1, rx, ex, C, dd, fs, v, ec, T, hno, ed, ea, l, q⟩ := hh
  subst ex
  obtain rfl : u = Value.ref a := rx
  subst ec
  subst ed
  obtain ⟨ha, _⟩ := I1.pin (a, oe) (List.mem_append_left _ List.mem_cons_self)
  obtain ⟨vs, hd⟩ := hf
  have hx : ObjOk X.prog X.w H1 s1.heap dd (.xd fs) := I1.hok dd _ ea
  obtain ⟨mA, hns, hr⟩ := hx
  obtain ⟨od, ho, hl⟩ := lookIn_ns hns
  obtain ⟨u, hu, ru⟩ := RelO.some_of (v := v) (o := mA n) (by rw [← l]; exact hr n)
  have J : PySem.W.InstAt s1.heap a oe C (some od) := ⟨ha, hz.1, by unfold PySem.W.notCls; rw [hd] <;> rfl, by rw [hz.2]; exact ho⟩
  exact HandSPX.exc_get I1.kIn J T.ga T.gg T.exC (PySem.W.findObj_own T.hdC hno rfl (by rw [hl, hu])) (handed_of ru) ⟨v, H1, I1.tok _, ru, q⟩
/-- f(e), e the error that the suite holds, in slot i -/
def tCallE (K : PySem.W.Frag) (a : Addr) (cls : Value) (d : Option Addr) (sp : DSp) (i : Nat) : TE := fun σ H Q => σ[i]? = some (some (.ref a)) ∧ ∃ (C dd : Addr) (fs : List (Str × V)) (ds : List (Str × D)) (B : Bo) (G : Hp) (O : Ow) (r : D), cls = .ref C ∧ d = some dd ∧ Good K B O G H ∧ G dd = some (.xd fs) ∧ RpF K G fs ds ∧
  sp [.exc C ds] noOw (fun d O => d = r ∧ O = noOw) (fun _ _ => False) ∧ noX r = true ∧ ∀ v G' H', Step K B O G H O G' H' → Rp K G' v r → Q v H'
theorem pe_callE {k i : Nat} {f : Addr} {fd : FuncData} {p0 y : Str} {py : Pos} {sp : DSp} (F : FnQ X.prog X.w X.K X.mg X.base k f fd [p0] (spD X.K sp)) (hr : RoomW k X.A) (hz : Zc cls d oe) (hf : ∃ vs, oe.data = .fields vs) (nba : X.base.get? a = none) (hg : Gl X x) (hm : X.mg x = some (.ref f)) (hk : PySem.W.keepIn X.K (.ref f) = true) (hb : Binds X.K fd [p0] [])
    (hN : X.N[i]? = some y) (hv : Vis X.env.scope y) (hd : (y == ("__debug__" : Str)) = false) (hcd : (y == ("__classdict__" : Str)) = false) (hdb : (x == ("__debug__" : Str)) = false) (hst : starEach [.Name y py] X.env = [(false, eval (.Name y py) X.env)]) :
    PE (X.suite a ((a, oe) :: pn)) (.Call (.Name x q) [.Name y py] [] pos) (tCallE X.K a cls d sp i) := by
  refine ⟨fun pins s σ H Q I h => ?_⟩
  obtain ⟨hσ, C, dd, fs, ds, B, G, O, r, ec, ed, g, hdd, rf, hsp, nx, hq⟩ := h
  subst ec ed
  refine wpAny_Call_Name_kw (ld_glob I hg hm ?_ hdb)
  have ha : PA (X.suite a ((a, oe) :: pn)) [.Name y py] _ := pa_cons (pe_var hN hv hd hcd) pa_nil hst
  refine PySem.W.callWith_K (h₀ := X.base) I.ok.mod.kin hk (thn (ha.run pos pins s σ H (fun vs H1 => vs = [.ref a] ∧ H1 = H) I ⟨_, hσ, rfl, rfl⟩) fun us s1 hh => ?_) hst rfl
  obtain ⟨vs, H1, I1, rv, ev, eH⟩ := hh
  subst ev eH
  obtain ⟨u, rfl⟩ : ∃ u, us = [u] := by cases rv with | cons _ t => cases t; exact ⟨_, rfl⟩
  obtain rfl : u = .ref a := by cases rv with | cons x _ => exact x
  refine ⟨I1.kIn, ?_⟩
  obtain ⟨ha1, ha2, ha3, ha4, _⟩ := I1.pin (a, oe) (List.mem_append_left _ List.mem_cons_self)
  obtain ⟨vs0, hd0⟩ := hf
  let cv : Cv := fun b => if b = a then some oe else none
  have cva : cv a = some oe := if_pos rfl
  have cvn : ∀ {b : Addr} {o : Obj}, cv b = some o → b = a ∧ o = oe := fun {b o} e => by
    by_cases z : b = a
    · subst z; rw [cva] at e; cases e; exact ⟨rfl, rfl⟩
    · rw [show cv b = none from if_neg z] at e; cases e
  have un : ∀ b o, cv b = some o → H1 b = none := fun b o e => by obtain ⟨rfl, rfl⟩ := cvn e; exact ha2
  have cvo : CvOk X.base X.stack H1 s1.heap cv := by
    refine ⟨un, fun b o e => ?_, fun b o e hm => ?_, fun b o e => ?_⟩
    · obtain ⟨rfl, rfl⟩ := cvn e; exact ha1
    · obtain ⟨rfl, rfl⟩ := cvn e
      rcases List.mem_cons.mp (I1.stkSub b hm) with z | z
      · exact ha3 z
      · exact ha4 z
    · obtain ⟨rfl, rfl⟩ := cvn e; exact nba
  have g2 := good_free (cv := cv) g un
  have sp1 : Sub G (hplus G cv) := sub_plus fun b o e => g.freshG (un b o e)
  have bd := hb s1 [.ref a] I1.kIn rfl
  refine wpAny_call (codeAny_mono (F.run (X.suite a ((a, oe) :: pn)).A X.stack s1 (hplus H1 cv) ⟨[.ref a], []⟩ [.ref a] [.ref a] (fun v H' => Q v (hminus H' cv)) (fun _ _ _ => False) ⟨hr.dp, hr.un⟩ (env_plus I1.env0 cvo) bd (.cons rfl .nil)
    ⟨_, noOw, [.exc C ds], g2, .cons (.exc (hplus_in cva) ⟨oe, vs0, rfl, hz, hd0⟩ (sp1 _ _ hdd) (rf.mono sp1)) .nil, _, _, hsp, fun d O' ⟨e1, e2⟩ v G' H' t rv' => ?_, fun _ _ z => z.elim⟩) fun r s' hq' => ?_)
  · subst e1 e2
    have hs : Has G' cv := fun b o e => t.grow _ _ (hplus_in e)
    exact hq v _ _ (step_free g un t) (rp_free hs (fun b o e => by obtain ⟨rfl, rfl⟩ := cvn e; exact ⟨vs0, hd0⟩) nx rv')
  · cases r with
    | error e => exact (show False from hq').elim
    | ok fl =>
      cases fl with
      | ret u =>
        obtain ⟨v, H', os, ag, un', hk', rv', q⟩ := hq'
        have hs : Has H' cv := fun b o e => un'.frzs b o _ (hplus_in e)
        exact I1.after ⟨v, hminus H' cv, os, ag, un_minus un' cvo.un cvo.get cvo.fr hk', hok_minus hk' hs, rv', q⟩
      | next => exact False.elim hq'
      | brk => exact False.elim hq'
      | cont => exact False.elim hq'
end
end EV
set_option Elab.async false
set_option linter.all false
set_option maxRecDepth 100000
set_option maxHeartbeats 4000000
namespace EV
open PySem PySem.Spec PyProof.Rows L2 LamX
section
variable {X : Cx} {L : Pl} {a : Str} {p1 p2 : Pos}
/-- a(), a lambda in slot i -/
def dAct (R : LR) (i : Nat) : DE := fun ρ O Q E => match ρ[i]? with
  | some (.sh (.lam l)) => ∃ m, R l m ∧ m O Q E
  | _ => False
theorem d_act {R : LR} {j i : Nat} (hR : ∀ l m, R l m → ActV X.prog X.w X.K X.mg X.base j L.B l m ∧ MoL m) (hr : Room j X.A) (hx : ∀ σ, PassesAt (L2.CX X.prog X.w) X σ (L.W σ)) (hN : X.N[i]? = some a) (hv : Vis X.env.scope a) (hd : (a == ("__debug__" : Str)) = false) (hcd : (a == ("__classdict__" : Str)) = false) :
    DPE X L (.Call (.Name a p1) [] [] p2) (dAct R i) := by
  refine ⟨fun ρ O Q Q' E E' q hq z => ?_, ⟨fun pins s σ H Q I ⟨G, O, ρ, g, rs, q⟩ => ?_⟩⟩
  · unfold dAct at z ⊢
    split at z
    · obtain ⟨m, r, z⟩ := z
      exact ⟨m, r, (hR _ m r).2 _ _ _ _ _ q hq z⟩
    · exact z
  · unfold dAct at q
    split at q
    · rename_i l el
      obtain ⟨m, r, q⟩ := q
      obtain ⟨v, ev, rv⟩ := rs.sh i _ el
      refine wpAny_Call_Name_kw (thn ((pe_var (pos := p1) (i := i) hN hv hd hcd).run pins s σ H (fun w H1 => w = v ∧ H1 = H) I ⟨v, ev, rfl, rfl⟩) fun u s1 ⟨w, H1, I1, r1, e1, e2⟩ => ?_)
      subst e1 e2
      have rl := rv
      cases rv with
      | @lam f c _ fd hf hc hfd =>
        obtain rfl : u = Value.ref f := r1
        have hf1 := (I1.hok f _ (g.sub _ _ hf)).1
        refine PySem.W.callWith_F0 ⟨_, _, _, _, hf1⟩ ?_
        refine wpAny_call (codeAny_mono ((hR l m r).1 f X.A X.stack s1 H1 G O Q (L.W σ) hr I1.env0 g rl q) fun r s' hq => ?_)
        cases r with
        | error e => exact hx σ pins H1 s1 e s' I1 hq
        | ok fl =>
          cases fl with
          | ret u => exact I1.after hq
          | next => exact False.elim hq
          | brk => exact False.elim hq
          | cont => exact False.elim hq
    · exact q.elim
end
end EV
set_option Elab.async false
set_option linter.all false
set_option maxRecDepth 100000
set_option maxHeartbeats 4000000
set_option pp.maxSteps 400
namespace LW
open PySem PySem.Spec PyProof.Rows L2 EV PySem.XO PySem.W LamX
abbrev s_field : Stmt := topS 37
abbrev N_field : List Str := ["_law_e"]
theorem sc_field : FnScope N_field ["_law_e"] (defScope s_field) := ⟨rfl, rfl, rfl, by decide +kernel, rfl, by decide +kernel, by decide +kernel⟩
/-- what _law_field tells of an error with the code c -/
def fldD (c : Str) (fs : List (Str × D)) : Option D :=
  if (["InvalidNumber", "InvalidName", "InvalidThings", "InvalidNames", "InvalidSaying", "InvalidInputs", "InvalidStop"] : List Str).any (fun z => decide (c = z)) then fs.lookup ("given" : Str)
  else if (["InvalidTable", "Unfit", "DuplicateName", "NotAccepted", "UnknownTable", "UnknownName"] : List Str).any (fun z => decide (c = z)) then fs.lookup ("name" : Str)
  else if c = "InvalidRow" then (fs.lookup ("table" : Str)).bind fun x => (fs.lookup ("at" : Str)).bind fun y => some (.tup [x, y])
  else if (["InvalidCell", "InvalidStep", "InvalidCommand"] : List Str).any (fun z => decide (c = z)) then fs.lookup ("at" : Str)
  else if (["TooLong", "TooMany", "Full"] : List Str).any (fun z => decide (c = z)) then fs.lookup ("most" : Str)
  else if c = "InvalidText" then fs.lookup ("line" : Str) else some .non
def fieldS (K : Frag) : DSp := fun ds O Q _ => ∃ c fs r, ds = [.exc (He.ga K c) fs] ∧ c ∈ erN ∧ fs.lookup ("code" : Str) = some (.str c) ∧ fldD c fs = some r ∧ Q r O
section
variable {P : Program} {w : World} {K : PySem.W.Frag} {mg : Str → Option Value} {base : Heap}
theorem huw1 {A : Around} {k : Nat} (hr : RoomW k A) : A.units + 64 < cLine := by have := hr.un; omega
theorem ok_field {f : Addr} {fd : FuncData} (F : Fun K "_law_field" "_law_field" s_field f fd) (hex : exK K = true) (hin : ∀ d ∈ inL, iniW K d.cls = d.val) : FnQ P w K mg base 1 f fd ["_law_e"] (spD K (fieldS K)) := by
  have hxf : ∀ C ∈ erA K, XfC K C := mem_ga fun x hx => (anK hex hin x hx).xf
  have NA_code : ∀ C ∈ erA K, findIn K (.ref C) "code" = some none := mem_ga (naK_code hex hin)
  have XF_given : ∀ C ∈ fA_given K, XfC K C := mem_ga fun x hx => (anK hex hin x (subN_given x hx)).xf
  have NA_given : ∀ C ∈ fA_given K, findIn K (.ref C) "given" = some none := mem_ga (naK_given hex hin)
  have XF_name : ∀ C ∈ fA_name K, XfC K C := mem_ga fun x hx => (anK hex hin x (subN_name x hx)).xf
  have NA_name : ∀ C ∈ fA_name K, findIn K (.ref C) "name" = some none := mem_ga (naK_name hex hin)
  have XF_table : ∀ C ∈ fA_table K, XfC K C := mem_ga fun x hx => (anK hex hin x (subN_table x hx)).xf
  have NA_table : ∀ C ∈ fA_table K, findIn K (.ref C) "table" = some none := mem_ga (naK_table hex hin)
  have XF_at : ∀ C ∈ fA_at K, XfC K C := mem_ga fun x hx => (anK hex hin x (subN_at x hx)).xf
  have NA_at : ∀ C ∈ fA_at K, findIn K (.ref C) "at" = some none := mem_ga (naK_at hex hin)
  have XF_line : ∀ C ∈ fA_line K, XfC K C := mem_ga fun x hx => (anK hex hin x (subN_line x hx)).xf
  have NA_line : ∀ C ∈ fA_line K, findIn K (.ref C) "line" = some none := mem_ga (naK_line hex hin)
  have XF_most : ∀ C ∈ fA_most K, XfC K C := mem_ga fun x hx => (anK hex hin x (subN_most x hx)).xf
  have NA_most : ∀ C ∈ fA_most K, findIn K (.ref C) "most" = some none := mem_ga (naK_most hex hin)
  refine fn_warm F sc_field (fun ds O Q E h => ?_) (fun cdv A outer s H E hr =>
    (d_scons (d_ifS (d_tcmp od_inS (d_ef hxf NA_code (d_var (i := 0) rfl (.inl rfl) (by decide) (by decide)) rfl) (d_lst (d_cons d_str (d_cons d_str (d_cons d_str (d_cons d_str (d_cons d_str (d_cons d_str (d_cons d_str d_nil rfl) rfl) rfl) rfl) rfl) rfl) rfl)) rfl) (d_sone (d_ret (d_ef XF_given NA_given (d_var (i := 0) rfl (.inl rfl) (by decide) (by decide)) rfl))) d_snil)
      (d_scons (d_ifS (d_tcmp od_inS (d_ef hxf NA_code (d_var (i := 0) rfl (.inl rfl) (by decide) (by decide)) rfl) (d_lst (d_cons d_str (d_cons d_str (d_cons d_str (d_cons d_str (d_cons d_str (d_cons d_str d_nil rfl) rfl) rfl) rfl) rfl) rfl)) rfl) (d_sone (d_ret (d_ef XF_name NA_name (d_var (i := 0) rfl (.inl rfl) (by decide) (by decide)) rfl))) d_snil)
      (d_scons (d_ifS (d_tcmp (od_eq (huw1 hr)) (d_ef hxf NA_code (d_var (i := 0) rfl (.inl rfl) (by decide) (by decide)) rfl) d_str (nomark _)) (d_sone (d_ret (d_tup (d_cons (d_ef XF_table NA_table (d_var (i := 0) rfl (.inl rfl) (by decide) (by decide)) rfl) (d_cons (d_ef XF_at NA_at (d_var (i := 0) rfl (.inl rfl) (by decide) (by decide)) rfl) d_nil rfl) rfl)))) d_snil)
      (d_scons (d_ifS (d_tcmp od_inS (d_ef hxf NA_code (d_var (i := 0) rfl (.inl rfl) (by decide) (by decide)) rfl) (d_lst (d_cons d_str (d_cons d_str (d_cons d_str d_nil rfl) rfl) rfl)) rfl) (d_sone (d_ret (d_ef XF_at NA_at (d_var (i := 0) rfl (.inl rfl) (by decide) (by decide)) rfl))) d_snil)
      (d_scons (d_ifS (d_tcmp od_inS (d_ef hxf NA_code (d_var (i := 0) rfl (.inl rfl) (by decide) (by decide)) rfl) (d_lst (d_cons d_str (d_cons d_str (d_cons d_str d_nil rfl) rfl) rfl)) rfl) (d_sone (d_ret (d_ef XF_most NA_most (d_var (i := 0) rfl (.inl rfl) (by decide) (by decide)) rfl))) d_snil)
      (d_sone (d_ret (d_if (d_tcmp (od_eq (huw1 hr)) (d_ef hxf NA_code (d_var (i := 0) rfl (.inl rfl) (by decide) (by decide)) rfl) d_str (nomark _)) (d_ef XF_line NA_line (d_var (i := 0) rfl (.inl rfl) (by decide) (by decide)) rfl) d_non))))))))) (fun ds O Q E h => ?_) (fun ds O Q E h => h)
  · obtain ⟨c, fs, r, rfl, _⟩ := h; rfl
  · obtain ⟨c, fs, r, rfl, hc, hl, hf, q⟩ := h
    rw [show startD N_field [.exc (He.ga K c) fs] = [.sh (.exc (He.ga K c) fs)] from rfl]
    have code : ∀ Q, Q (.str c) → efD (erA K) "code" (.exc (He.ga K c) fs) Q := fun Q q => ⟨List.mem_map_of_mem hc, by rw [hl]; exact q⟩
    have fldv : ∀ (l : List Str) (n : Str) (r : D) (Q : D → Prop), c ∈ l → fs.lookup n = some r → Q r → efD (l.map (He.ga K)) n (.exc (He.ga K c) fs) Q := fun l n r Q m e q => ⟨List.mem_map_of_mem m, by rw [e]; exact q⟩
    have g1 : ∀ c ∈ erN, (["InvalidNumber", "InvalidName", "InvalidThings", "InvalidNames", "InvalidSaying", "InvalidInputs", "InvalidStop"] : List Str).any (fun z => decide (c = z)) = true → c ∈ fN_given := by decide +kernel
    have g2 : ∀ c ∈ erN, (["InvalidTable", "Unfit", "DuplicateName", "NotAccepted", "UnknownTable", "UnknownName"] : List Str).any (fun z => decide (c = z)) = true → c ∈ fN_name := by decide +kernel
    have g3 : ∀ c ∈ erN, c = "InvalidRow" → c ∈ fN_table ∧ c ∈ fN_at := by decide +kernel
    have g4 : ∀ c ∈ erN, (["InvalidCell", "InvalidStep", "InvalidCommand"] : List Str).any (fun z => decide (c = z)) = true → c ∈ fN_at := by decide +kernel
    have g5 : ∀ c ∈ erN, (["TooLong", "TooMany", "Full"] : List Str).any (fun z => decide (c = z)) = true → c ∈ fN_most := by decide +kernel
    have g6 : ∀ c ∈ erN, c = "InvalidText" → c ∈ fN_line := by decide +kernel
    unfold fldD at hf
    refine code _ ⟨le_sz rfl, ?_⟩
    show bc ((["InvalidNumber", "InvalidName", "InvalidThings", "InvalidNames", "InvalidSaying", "InvalidInputs", "InvalidStop"] : List Str).any (fun z => decide (c = z))) _ _
    split at hf
    · rename_i h1
      rw [h1]
      exact fldv fN_given "given" r _ (g1 c hc h1) hf q
    rename_i h1
    rw [Bool.not_eq_true] at h1
    rw [h1]
    refine code _ ⟨le_sz rfl, ?_⟩
    show bc ((["InvalidTable", "Unfit", "DuplicateName", "NotAccepted", "UnknownTable", "UnknownName"] : List Str).any (fun z => decide (c = z))) _ _
    split at hf
    · rename_i h1
      rw [h1]
      exact fldv fN_name "name" r _ (g2 c hc h1) hf q
    rename_i h1
    rw [Bool.not_eq_true] at h1
    rw [h1]
    refine code _ ?_
    show bc (decide (c = "InvalidRow")) _ _
    split at hf
    · rename_i h1
      rw [decide_eq_true h1]
      cases e1 : fs.lookup ("table" : Str) with
      | none => rw [e1] at hf; cases hf
      | some x =>
        cases e2 : fs.lookup ("at" : Str) with
        | none => rw [e1, e2] at hf; cases hf
        | some y =>
          rw [e1, e2] at hf
          cases hf
          exact fldv fN_table "table" x _ (g3 c hc h1).1 e1 (fldv fN_at "at" y _ (g3 c hc h1).2 e2 ⟨le_sz rfl, q⟩)
    rename_i h1
    rw [decide_eq_false h1]
    refine code _ ⟨le_sz rfl, ?_⟩
    show bc ((["InvalidCell", "InvalidStep", "InvalidCommand"] : List Str).any (fun z => decide (c = z))) _ _
    split at hf
    · rename_i h1
      rw [h1]
      exact fldv fN_at "at" r _ (g4 c hc h1) hf q
    rename_i h1
    rw [Bool.not_eq_true] at h1
    rw [h1]
    refine code _ ⟨le_sz rfl, ?_⟩
    show bc ((["TooLong", "TooMany", "Full"] : List Str).any (fun z => decide (c = z))) _ _
    split at hf
    · rename_i h1
      rw [h1]
      exact fldv fN_most "most" r _ (g5 c hc h1) hf q
    rename_i h1
    rw [Bool.not_eq_true] at h1
    rw [h1]
    refine code _ ?_
    show bc (decide (c = "InvalidText")) _ _
    split at hf
    · rename_i h1
      rw [decide_eq_true h1]
      exact fldv fN_line "line" r _ (g6 c hc h1) hf q
    · rename_i h1
      rw [decide_eq_false h1]
      cases hf
      exact q
end
end LW
set_option Elab.async false
set_option linter.all false
set_option maxRecDepth 100000
set_option maxHeartbeats 4000000
set_option pp.maxSteps 400
namespace LW
open PySem PySem.Spec PyProof.Rows L2 EV PySem.XO PySem.W LamX
abbrev s_got : Stmt := topS 38
abbrev N_got : List Str := ["_law_ask", "_law_e"]
theorem sc_got : FnScope N_got ["_law_ask"] (defScope s_got) := ⟨rfl, rfl, rfl, by decide +kernel, rfl, by decide +kernel, by decide +kernel⟩
/-- what _law_got makes of an error -/
def gotE (K : Frag) (x : Xc) (Q : D → Prop) : Prop := ∃ c r, c ∈ erN ∧ x.1 = He.ga K c ∧ x.2.lookup ("code" : Str) = some (.str c) ∧ fldD c x.2 = some r ∧ noX r = true ∧ Q (.tup [.str c, r])
def gotS (K : Frag) (R : LR) : DSp := fun ds O Q _ => ∃ l m, ds = [.lam l] ∧ R l m ∧ m O (fun d O1 => Q (.tup [.str "", d]) O1) (fun x O1 => gotE K x fun r => Q r O1)
theorem set_get {α : Type} {l : List α} {i : Nat} {x : α} (h : i < l.length) : (l.set i x)[i]? = some x := by simp [h]
section
variable {P : Program} {w : World} {K : PySem.W.Frag} {mg : Str → Option Value} {base : Heap}
theorem ok_got {f fF : Addr} {fd fdF : FuncData} {j : Nat} (F : Fun K "_law_got" "_law_got" s_got f fd) (hex : exK K = true) (hin : ∀ d ∈ inL, iniW K d.cls = d.val) (G_field : FnQ P w K mg base 1 fF fdF ["_law_e"] (spD K (fieldS K))) (T_field : Gf K mg "_law_field" fF fdF ["_law_e"])
    (M1 : mg "OnceError" = some (.ref (He.ga K "OnceError"))) (M2 : mg "Missing" = some (.ref (He.ga K "Missing"))) (M3 : mg "NothingLeft" = some (.ref (He.ga K "NothingLeft"))) : FnL P w K mg base j (j + 2) f fd ["_law_ask"] (gotS K) := by
  intro B R hR
  refine F.ok sc_got (fun vs H Q E ⟨G, O, ds, g, r, Q0, E0, ⟨l, m, e, _⟩, _⟩ => ?_) (fun cdv A outer s H vs Q E hr ⟨G, O, ds, g, r, Q0, E0, ⟨l, m, e, rl, h0⟩, hq, hx⟩ => ?_)
  · rw [r.length, e]; rfl
  · subst e
    refine ⟨_, pss_one (ps_try_as3 (i := 1) (tb := fun W => upS K ⟨B, fun σ cls d H => W cls d σ H⟩ (dRet (dTup (dCons (dC (.str "")) (dCons (dAct R 0) dNil))))) rfl rfl sc_got.nd rfl rfl ⟨rfl, M1, by decide⟩ ⟨rfl, M2, by decide⟩ ⟨rfl, M3, by decide⟩
      (fun W pn xe tk po => (d_sone (d_ret (d_tup (d_cons d_str (d_cons (d_act (L := ⟨B, fun σ cls d H => W cls d σ H⟩) (i := 0) hR (hr.mono (by omega)) (fun σ => passAt tk σ) rfl (.inl rfl) (by decide) (by decide)) d_nil rfl) rfl)))).run)
      (fun a oe cls d pn hz hf nba => pss_one (ps_ret (pe_tup (pa_cons (pe_xfE hz hf (pv 1) rfl) (pa_cons (pe_callE (i := 1) G_field (L2H.roomH_of (hr.mono (by omega))) hz hf nba rfl T_field.m T_field.k T_field.b rfl (.inl rfl) (by decide) (by decide) (by decide) rfl) pa_nil)))))), ?_⟩
    refine ⟨G, O, [.sh (.lam l), .un], g, start_rp r, m, rl, (hR l m rl).2 _ _ _ _ _ (fun d O1 z => ⟨le_sz rfl, fun v G' H' st rv => hq _ _ z v G' H' st rv⟩) (fun x O1 z => ?_) h0⟩
    obtain ⟨c, r', hc, ex, el, ef, nx, z⟩ := z
    obtain ⟨xC, xf⟩ := x
    subst ex
    intro σ' d fs G' H' st rs' hd rf
    refine ⟨exmK hex c hc, fun a na => ?_⟩
    have hlen : σ'.length = 2 := rs'.len
    obtain ⟨v, ev, rv⟩ := rf.look el
    cases rv
    refine ⟨.ref a, set_get (by omega), rfl, He.ga K c, d, fs, .str c, rfl, (anK hex hin c hc).xf, naK_code hex hin c hc, rfl, st.good.sub _ _ hd, ev, ?_⟩
    refine ⟨set_get (by omega), He.ga K c, d, fs, _, B, G', O1, r', rfl, rfl, st.good, hd, rf, ⟨c, _, r', rfl, hc, el, ef, rfl, rfl⟩, nx, fun v2 G2 H2 st2 rv2 => ⟨le_sz rfl, fun p np => ?_⟩⟩
    have st3 := Step.new (o := .tup [.str c, v2]) st2.good np
    exact hq _ _ z _ _ _ ((st.trans st2).trans st3) (new_tup st2.good np (.cons (.str _) (.cons rv2 .nil)))
end
end LW
set_option Elab.async false
set_option linter.all false
set_option maxRecDepth 100000
set_option maxHeartbeats 4000000
namespace EV
open PySem PySem.Spec PyProof.Rows L2
abbrev tupD : PC
  | [.lst xs], Q => Q (.tup xs)
  | [.tup xs], Q => Q (.tup xs)
  | _, _ => False
abbrev listD : PC
  | [.lst xs], Q => Q (.lst xs)
  | [.tup xs], Q => Q (.lst xs)
  | _, _ => False
def tupO : DC := fun O xs Q => tupD (xs.map (lk O)) Q
def listO : DC := fun O xs Q => listD (xs.map (lk O)) Q
section
variable {X : Cx} {B : Bo}
theorem tupD_mo {x : List D} {Q Q' : D → Prop} (q : ∀ d, Q d → Q' d) (z : tupD x Q) : tupD x Q' := by
  unfold tupD at z ⊢
  split at z
  · exact q _ z
  · exact q _ z
  · exact z
theorem one_of {P : List D → (D → Prop) → Prop} {K : PySem.W.Frag} {G : Hp} {O : Ow} {vs : List V} {ds : List D} {Q : D → Prop} (hP : ∀ xs Q, P xs Q → xs.length = 1) (r : RpL K G vs ds) (h : P (ds.map (lk O)) Q) : ∃ v d, vs = [v] ∧ Rp K G v d ∧ P [lk O d] Q := by
  have := hP _ _ h
  cases r with
  | nil => cases this
  | cons r1 r2 => cases r2 with
    | cons _ _ => simp at this
    | nil => exact ⟨_, _, rfl, r1, h⟩
theorem cd_tuple : CallD X B (.type "tuple") tupO := by
  refine ⟨fun O x Q Q' q z => tupD_mo q z, _, call_tuple_of, fun O G H vs ds Q g r h => ?_⟩
  obtain ⟨v, d, rfl, r1, h⟩ := one_of (P := tupD) (fun xs Q h => by unfold tupD at h; split at h <;> first | rfl | exact h.elim) r h
  have rx := lk_rp g r1
  generalize lk O d = d at rx h
  cases d <;> first | exact h.elim | skip
  · obtain ⟨a, vs, rfl, s, l⟩ := rx.lst g.sub
    exact ⟨a, vs, rfl, .inl ⟨.inl (.inl s), fun q n => h _ _ _ (Step.new g n) (new_tup g n l)⟩⟩
  · rcases rx with rx | ⟨p, _, z⟩
    · cases rx with
      | tup s l => exact ⟨_, _, rfl, .inr ⟨g.sub.sqT s, h _ _ _ (Step.refl g) (.tup s l)⟩⟩
    · exact z.elim
end
end EV
set_option Elab.async false
set_option linter.all false
set_option maxRecDepth 100000
set_option maxHeartbeats 4000000
set_option pp.maxSteps 400
namespace LW
open PySem PySem.Spec PyProof.Rows L2 EV
abbrev s_is_number : Stmt := topS 16
abbrev N_is_number : List Str := ["value", "least", "most"]
theorem sc_is_number : FnScope N_is_number ["value", "least", "most"] (defScope s_is_number) := ⟨rfl, rfl, rfl, by decide +kernel, rfl, by decide +kernel, by decide +kernel⟩
def isNum : D → Int → Int → Bool
  | .int i, a, b => decide (a ≤ i) && decide (i ≤ b)
  | _, _, _ => false
def numS : DSp := fun ds O Q _ => ∃ v a b, ds = [v, .int a, .int b] ∧ (tyD v).isSome = true ∧ Q (.bl (isNum v a b)) O
abbrev s_is_name : Stmt := topS 15
abbrev N_is_name : List Str := ["value", "letter"]
theorem sc_is_name : FnScope N_is_name ["value"] (defScope s_is_name) := ⟨rfl, rfl, rfl, by decide +kernel, rfl, by decide +kernel, by decide +kernel⟩
abbrev lettersT : Str := "abcdefghijklmnopqrstuvwxyz"
def isNm : D → Bool
  | .str y => decide (1 ≤ y.length) && decide (y.length ≤ 6) && (co y).all fun c => decide (c ∈ co lettersT)
  | _ => false
def lettB : D → D
  | .str z => .bl (decide ((co z).headD 0 ∈ co lettersT))
  | _ => .non
theorem lettB_one (c : Nat) : lettB (.str ⟨#[c]⟩) = .bl (decide (c ∈ co lettersT)) := by simp [lettB, co]
def nameS : DSp := fun ds O Q _ => ∃ v, ds = [v] ∧ (tyD v).isSome = true ∧ (∀ y, v = .str y → y.length ≤ sizeLine) ∧ Q (.bl (isNm v)) O
section
variable {P : Program} {w : World} {K : PySem.W.Frag} {mg : Str → Option Value} {base : Heap}
theorem ok_is_number {f : Addr} {fd : FuncData} (F : Fun K "is_number" "is_number" s_is_number f fd) (m_isinstance : mg "isinstance" = none) (m_bool : mg "bool" = none) (m_int : mg "int" = none) :
    FnOk P w K mg base CX0 1 f fd ["value", "least", "most"] (spD K numS) := by
  refine fn_pure F sc_is_number (fun ds O Q E h => ?_) (fun cdv A outer s H E hr =>
    (d_sone (d_ret (d_and (d_callB cd_isi rfl m_isinstance boot_isinstance (d_cons (d_var (i := 0) rfl (.inl rfl) (by decide) (by decide)) (d_cons (d_ty rfl m_int boot_int (by decide) (by decide)) d_nil rfl) rfl) (by decide) (by decide) rfl rfl) (d_and (d_not (d_callB cd_isi rfl m_isinstance boot_isinstance (d_cons (d_var (i := 0) rfl (.inl rfl) (by decide) (by decide)) (d_cons (d_ty rfl m_bool boot_bool (by decide) (by decide)) d_nil rfl) rfl) (by decide) (by decide) rfl rfl)) (d_one (d_chain od_le od_le (d_var (i := 1) rfl (.inl rfl) (by decide) (by decide)) (d_var (i := 0) rfl (.inl rfl) (by decide) (by decide)) (d_var (i := 2) rfl (.inl rfl) (by decide) (by decide)) (by with_unfolding_all rfl)))))))) (fun ds O Q E h => ?_) (fun ds O Q E h => h)
  · obtain ⟨v, a, b, rfl, _⟩ := h; rfl
  · obtain ⟨v, a, b, rfl, hv, q⟩ := h
    rw [show startD N_is_number [v, .int a, .int b] = [.sh v, .sh (.int a), .sh (.int b)] from rfl]
    cases v with
    | int i =>
      refine ⟨rfl, rfl, ?_⟩
      refine ⟨rfl, rfl, ?_⟩
      show bc (decide (a ≤ i)) _ _
      by_cases h : a ≤ i
      · rw [decide_eq_true h]
        simp only [isNum, decide_eq_true h, Bool.true_and] at q
        exact q
      · rw [decide_eq_false h]
        simp only [isNum, decide_eq_false h, Bool.false_and] at q
        exact q
    | bl b' => exact ⟨rfl, rfl, rfl, rfl, q⟩
    | non => exact ⟨rfl, rfl, q⟩
    | str => exact ⟨rfl, rfl, q⟩
    | lst => exact ⟨rfl, rfl, q⟩
    | tup => exact ⟨rfl, rfl, q⟩
    | dic => exact ⟨rfl, rfl, q⟩
    | opq => cases hv
    | ins => cases hv
    | exc => cases hv
    | lam => cases hv
    | nk => cases hv
theorem ok_is_name {f : Addr} {fd : FuncData} (F : Fun K "is_name" "is_name" s_is_name f fd) (m_isinstance : mg "isinstance" = none) (m_str : mg "str" = none) (m_len : mg "len" = none) (m_all : mg "all" = none)
    {tL tN : Tok} (M_LETTERS : mg "LETTERS" = some (.str lettersT tL)) (M_LONGEST_NAME : mg "LONGEST_NAME" = some (.int 6 tN)) :
    FnOk P w K mg base CX0 1 f fd ["value"] (spD K nameS) := by
  refine fn_pure F sc_is_name (fun ds O Q E h => ?_) (fun cdv A outer s H E hr =>
    (d_scons (d_ifS (DPW.pt (d_wor (d_tnot (d_test (d_callB cd_isi rfl m_isinstance boot_isinstance (d_cons (d_var (i := 0) rfl (.inl rfl) (by decide) (by decide)) (d_cons (d_ty rfl m_str boot_str (by decide) (by decide)) d_nil rfl) rfl) (by decide) (by decide) rfl rfl) (by intro _; rfl))) (d_or1 (d_tnot (d_tchain od_le od_le d_int (d_callB cd_len rfl m_len boot_len (d_cons (d_var (i := 0) rfl (.inl rfl) (by decide) (by decide)) d_nil rfl) (by decide) (by decide) rfl rfl) (d_globI rfl M_LONGEST_NAME (by decide)) (by with_unfolding_all rfl)))))) (d_sone (d_ret d_bl)) d_snil)
      (d_sone (d_ret (d_callB (cd_all rfl) rfl m_all boot_all (d_cons (d_lc rfl sc_is_name.nd (d_iter (d_var (i := 0) rfl (.inl rfl) (by decide) (by decide))) (blkOk_by (own := [("letter", 1)]) (N := N_is_name) (sc := defScope s_is_name) (by decide +kernel)) (fun _ _ _ _ _ => (dg_name (i := 1) sc_is_name.nd rfl (.inl rfl) (.inr rfl))) (fun _ _ _ _ _ => d_ifs0) (fun _ _ _ _ _ => (d_cmp (od_in (hu1 hr)) (d_var (i := 1) rfl (.inl rfl) (by decide) (by decide)) (d_globS rfl M_LETTERS (by decide)) rfl)) (by decide +kernel) (fun _ => rfl)) d_nil rfl) (by decide) (by decide) rfl rfl))))) (fun ds O Q E h => ?_) (fun ds O Q E h => h)
  · obtain ⟨v, rfl, _⟩ := h; rfl
  · obtain ⟨v, rfl, hv, hs, q⟩ := h
    rw [show startD N_is_name [v] = [.sh v, .un] from rfl]
    cases v with
    | str y =>
      have hl := hs y rfl
      refine ⟨rfl, rfl, ?_⟩
      refine ⟨hl, ?_⟩
      show bc (decide ((1 : Int) ≤ (y.length : Int))) _ _
      by_cases h1 : 1 ≤ y.length
      · rw [decide_eq_true (by omega)]
        show bc (!decide ((y.length : Int) ≤ 6)) _ _
        by_cases h2 : y.length ≤ 6
        · rw [decide_eq_true (by omega)]
          simp only [isNm, decide_eq_true h1, decide_eq_true h2, Bool.true_and] at q
          refine lcW_map trivial lettB (fun d md Qy hq => ?_) (by simp [charsD]; exact hl) ?_
          · obtain ⟨c, mc, rfl⟩ := List.mem_map.mp md
            have e := lettB_one c
            rw [e] at hq
            exact hq
          · rw [List.nil_append, charsD, List.map_map]
            rw [show (lettB ∘ fun c => D.str { cps := #[c] }) = fun c => .bl (decide (c ∈ co lettersT)) from funext lettB_one]
            show allD [.lst ((co y).map fun c => D.bl (decide (c ∈ co lettersT)))] (fun d => Q d O)
            refine allD_of (toBs_map (fun c : Nat => decide (c ∈ co lettersT)) _) ?_
            rw [List.all_map]
            exact q
        · rw [decide_eq_false (by omega)]
          simp only [isNm, decide_eq_false h2, Bool.and_false, Bool.false_and] at q
          exact q
      · rw [decide_eq_false (by omega)]
        simp only [isNm, decide_eq_false h1, Bool.false_and] at q
        exact q
    | int => exact ⟨rfl, rfl, q⟩
    | bl b' => exact ⟨rfl, rfl, q⟩
    | non => exact ⟨rfl, rfl, q⟩
    | lst => exact ⟨rfl, rfl, q⟩
    | tup => exact ⟨rfl, rfl, q⟩
    | dic => exact ⟨rfl, rfl, q⟩
    | opq => cases hv
    | ins => cases hv
    | exc => cases hv
    | lam => cases hv
    | nk => cases hv
end
end LW
set_option Elab.async false
set_option linter.all false
set_option maxRecDepth 100000
set_option maxHeartbeats 4000000
set_option pp.maxSteps 400
namespace LW
open PySem PySem.Spec PyProof.Rows L2 EV
abbrev s_is_step : Stmt := topS 26
abbrev N_is_step : List Str := ["value", "cells", "rows", "kind", "item"]
theorem sc_is_step : FnScope N_is_step ["value", "cells", "rows"] (defScope s_is_step) := ⟨rfl, rfl, rfl, by decide +kernel, rfl, by decide +kernel, by decide +kernel⟩
def formsT : List (Str × D) := [("read", .str "c"), ("zero", .str "c"), ("top", .str "c"), ("up", .str "c"), ("copy", .str "cc"), ("same", .str "ccj"), ("less", .str "ccj"), ("has", .str "tcj"), ("link", .str "tccj"), ("jump", .str "j"), ("refuse", .str ""), ("end", .str "")]
def placesT : List (Str × D) := [("has", .int 1), ("link", .int 2)]
/-- one item of a row, by its kind -/
def kindOk (k : Nat) (it : D) (c r : Int) : Bool := if k = 116 then isNm it else isNum it 0 ((if k = 99 then c else r) - 1)
def isStp : D → Int → Int → Bool
  | .tup (.str z :: xs), c, r => match formsT.lookup z with
    | some (.str fm) => decide (xs.length = fm.length) && (List.zip (co fm) xs).all fun p => kindOk p.1 p.2 c r
    | _ => false
  | _, _, _ => false
/-- of a known kind, of no great size -/
def Flat (d : D) : Prop := (tyD d).isSome = true ∧ ∀ y, d = .str y → y.length ≤ sizeLine
def Flat1 (v : D) : Prop := (tyD v).isSome = true ∧ ∀ xs, v = .tup xs → ∀ x ∈ xs, Flat x
def stepS : DSp := fun ds O Q _ => ∃ v c r, ds = [v, .int c, .int r] ∧ Flat1 v ∧ Q (.bl (isStp v c r)) O
theorem forms_str : ∀ z d, formsT.lookup z = some d → ∃ fm : Str, d = .str fm ∧ fm.length ≤ 4 := by
  have h : ∀ p ∈ formsT, ∃ fm : Str, p.2 = .str fm ∧ fm.length ≤ 4 := by
    intro p hp
    simp only [formsT, List.mem_cons, List.not_mem_nil, or_false] at hp
    rcases hp with rfl | rfl | rfl | rfl | rfl | rfl | rfl | rfl | rfl | rfl | rfl | rfl <;> exact ⟨_, rfl, by decide⟩
  intro z d e
  have : (z, d) ∈ formsT := by
    have := List.lookup_eq_some_iff.mp e
    obtain ⟨l1, l2, e1, _⟩ := this
    rw [e1]; simp
  exact h _ this
theorem ix0 {x : D} {xs : List D} {Q : D → Prop} (q : Q x) : ixP (.tup (x :: xs)) (.int 0) Q := by
  have e : atI (x :: xs) (0 : Int) = some x := atI_nat (xs := x :: xs) (j := 0) rfl
  unfold ixP
  simp only [e]
  exact q
theorem cut1 (x : D) (xs : List D) : EV.cutD (x :: xs) (some 1) none = xs := by
  have h1 : HT.sIx (x :: xs).length 0 (some 1) = 1 := by simp [HT.sIx]; try omega
  have h2 : HT.sIx (x :: xs).length (x :: xs).length none = (x :: xs).length := by simp [HT.sIx]
  unfold EV.cutD
  rw [h1, h2]
  simp
theorem sl1 {x : D} {xs : List D} {Q : D → Prop} (q : Q (.tup xs)) : slD (.tup (x :: xs)) (some 1) none Q := by
  have h1 : HT.sIx (x :: xs).length 0 (some 1) = 1 := by simp [HT.sIx]; try omega
  refine ⟨by rw [h1]; simp, ?_⟩
  rw [cut1]; exact q
theorem val_sl1 {m : DE} {ρ : Slots} {O : Ow} (x : D) (xs : List D) (h : ∀ Q E, Q (.tup (x :: xs)) O → m ρ O Q E) : ∀ Q E, Q (.tup xs) O → dSl m (dPart (dC (.int 1))) dNoPart ρ O Q E := fun Q E q => h _ _ (show slD (.tup (x :: xs)) (some 1) none (fun d => Q d O) from sl1 q)
theorem zipL_chars (fm : Str) (xs : List D) : zipL (charsD fm) xs = ((co fm).zip xs).map fun p => .tup [.str ⟨#[p.1]⟩, p.2] := by
  unfold zipL charsD co
  rw [List.zipWith_map_left, List.zip, List.map_zipWith]
theorem one_eq (k j : Nat) : (decide ((⟨#[k]⟩ : Str) = ⟨#[j]⟩)) = decide (k = j) := by
  by_cases h : k = j
  · subst h; simp
  · rw [decide_eq_false h, decide_eq_false]
    intro e
    cases e
    exact h rfl
theorem one_t (k : Nat) : decide ((⟨#[k]⟩ : Str) = "t") = decide (k = 116) := by
  rw [show ("t" : Str) = ⟨#[116]⟩ from by decide +kernel]; exact one_eq k 116
theorem one_c (k : Nat) : decide ((⟨#[k]⟩ : Str) = "c") = decide (k = 99) := by
  rw [show ("c" : Str) = ⟨#[99]⟩ from by decide +kernel]; exact one_eq k 99
section
variable {P : Program} {w : World} {K : PySem.W.Frag} {mg : Str → Option Value} {base : Heap}
theorem ok_is_step {f fN fM aF : Addr} {fd fdN fdM : FuncData} (F : Fun K "is_step" "is_step" s_is_step f fd) (G_is_name : FnOk P w K mg base CX0 1 fN fdN ["value"] (spD K nameS)) (T_is_name : Gf K mg "is_name" fN fdN ["value"])
    (G_is_number : FnOk P w K mg base CX0 1 fM fdM ["value", "least", "most"] (spD K numS)) (T_is_number : Gf K mg "is_number" fM fdM ["value", "least", "most"])
    (m_isinstance : mg "isinstance" = none) (m_str : mg "str" = none) (m_tuple : mg "tuple" = none) (m_len : mg "len" = none) (m_zip : mg "zip" = none) (M_FORMS : mg "FORMS" = some (.ref aF)) (T_FORMS : TabK K w aF formsT) :
    FnOk P w K mg base CX0 2 f fd ["value", "cells", "rows"] (spD K stepS) := by
  refine fn_pure F sc_is_step (fun ds O Q E h => ?_) (fun cdv A outer s H E hr =>
    (d_scons (d_ifS (DPW.pt (d_wor (d_tnot (d_test (d_callB cd_isi rfl m_isinstance boot_isinstance (d_cons (d_var (i := 0) rfl (.inl rfl) (by decide) (by decide)) (d_cons (d_ty rfl m_tuple boot_tuple (by decide) (by decide)) d_nil rfl) rfl) (by decide) (by decide) rfl rfl) (by intro _; rfl))) (d_wor (d_tcmp (od_eq hr.units) (d_callB cd_len rfl m_len boot_len (d_cons (d_var (i := 0) rfl (.inl rfl) (by decide) (by decide)) d_nil rfl) (by decide) (by decide) rfl rfl) d_int (nomark _)) (d_or1 (d_tnot (d_test (d_callB cd_isi rfl m_isinstance boot_isinstance (d_cons (d_ix (d_var (i := 0) rfl (.inl rfl) (by decide) (by decide)) d_int (fun _ _ => rfl)) (d_cons (d_ty rfl m_str boot_str (by decide) (by decide)) d_nil rfl) rfl) (by decide) (by decide) rfl rfl) (by intro _; rfl))))))) (d_sone (d_ret d_bl)) d_snil)
      (d_scons (d_ifS (DPW.pt (d_wor (d_tcmp (od_notinK T_FORMS) (d_ix (d_var (i := 0) rfl (.inl rfl) (by decide) (by decide)) d_int (fun _ _ => rfl)) (d_gdict rfl M_FORMS (by decide)) rfl) (d_or1 (d_tcmp (od_ne hr.units) (d_callB cd_len rfl m_len boot_len (d_cons (d_var (i := 0) rfl (.inl rfl) (by decide) (by decide)) d_nil rfl) (by decide) (by decide) rfl rfl) (d_op od_add d_int (d_callB cd_len rfl m_len boot_len (d_cons (d_ixK T_FORMS (d_gdict rfl M_FORMS (by decide)) (d_ix (d_var (i := 0) rfl (.inl rfl) (by decide) (by decide)) d_int (fun _ _ => rfl)) (fun _ _ => rfl)) d_nil rfl) (by decide) (by decide) rfl rfl)) (nomark _))))) (d_sone (d_ret d_bl)) d_snil)
      (d_scons (d_for PassesOwn.never rfl (d_zip rfl m_zip (d_cons (d_ixK T_FORMS (d_gdict rfl M_FORMS (by decide)) (d_ix (d_var (i := 0) rfl (.inl rfl) (by decide) (by decide)) d_int (fun _ _ => rfl)) (fun _ _ => rfl)) (d_cons (d_sl (d_var (i := 0) rfl (.inl rfl) (by decide) (by decide)) (d_part d_int) d_nopart) d_nil rfl) rfl) rfl rfl) (dg_tup (n := 2) rfl (dgs_cons (dg_name (i := 3) sc_is_step.nd rfl (.inl rfl) (.inl rfl)) (dgs_cons (dg_name (i := 4) sc_is_step.nd rfl (.inl rfl) (.inl rfl)) dgs_nil rfl) rfl) rfl rfl) (d_scons (d_ifS (DPW.pt (d_wand (d_tcmp (od_eq hr.units) (d_var (i := 3) rfl (.inl rfl) (by decide) (by decide)) d_str (nomark _)) (d_and1 (d_tnot (d_test (d_call G_is_name (hr.mono (by decide)) rfl T_is_name.m T_is_name.k T_is_name.b (fun _ => pass0A) (d_cons (d_var (i := 4) rfl (.inl rfl) (by decide) (by decide)) d_nil rfl) (by decide) rfl rfl) (by intro _; rfl)))))) (d_sone (d_ret d_bl)) d_snil)
      (d_sone (d_ifS (DPW.pt (d_wand (d_tcmp (od_ne hr.units) (d_var (i := 3) rfl (.inl rfl) (by decide) (by decide)) d_str (nomark _)) (d_and1 (d_tnot (d_test (d_call G_is_number (hr.mono (by decide)) rfl T_is_number.m T_is_number.k T_is_number.b (fun _ => pass0A) (d_cons (d_var (i := 4) rfl (.inl rfl) (by decide) (by decide)) (d_cons d_int (d_cons (d_op od_sub (d_if (d_tcmp (od_eq hr.units) (d_var (i := 3) rfl (.inl rfl) (by decide) (by decide)) d_str (nomark _)) (d_var (i := 1) rfl (.inl rfl) (by decide) (by decide)) (d_var (i := 2) rfl (.inl rfl) (by decide) (by decide))) d_int) d_nil rfl) rfl) rfl) (by decide) rfl rfl) (by intro _; rfl)))))) (d_sone (d_ret d_bl)) d_snil))) (fun _ => rfl))
      (d_sone (d_ret d_bl)))))) (fun ds O Q E h => ?_) (fun ds O Q E h => h)
  · obtain ⟨v, c, r, rfl, _⟩ := h; rfl
  · obtain ⟨v, c, r, rfl, hv, q⟩ := h
    rw [show startD N_is_step [v, .int c, .int r] = [.sh v, .sh (.int c), .sh (.int r), .un, .un] from rfl]
    obtain ⟨hv, hx⟩ := hv
    cases v with
    | tup xs =>
      refine ⟨rfl, rfl, ?_⟩
      cases xs with
      | nil => exact q
      | cons x xs =>
        have hx0 := hx _ rfl x List.mem_cons_self
        cases x with
        | str z =>
          refine ix0 ⟨rfl, rfl, ?_⟩
          refine ix0 ⟨rfl, ?_⟩
          show bc (!(formsT.lookup z).isSome) _ _
          cases e : formsT.lookup z with
          | none =>
            simp only [isStp, e] at q
            exact q
          | some d =>
            obtain ⟨fm, rfl, hf⟩ := forms_str z d e
            simp only [isStp, e] at q
            have fs : fm.length ≤ sizeLine := Nat.le_trans hf (by decide)
            have ix : ∀ Q : D → Prop, Q (.str fm) → ixK aF formsT (.opq (.ref aF)) (.str z) Q := fun Q q => ⟨rfl, by rw [e]; exact q⟩
            refine ix0 (ix _ ⟨fs, ?_⟩)
            show bc (!decide (((xs.length + 1 : Nat) : Int) = 1 + (fm.length : Int))) _ _
            by_cases hl : xs.length = fm.length
            · rw [decide_eq_true (by omega)]
              rw [decide_eq_true hl, Bool.true_and] at q
              refine ix0 (ix _ (val_sl1 (.str z) xs (fun Q E q => q) _ _ ?_))
              show forW tt1 _ _ _ (zipL (charsD fm) xs) _ _
              rw [zipL_chars]
              have hfl : ∀ p ∈ (co fm).zip xs, Flat p.2 := fun p hp => hx _ rfl _ (List.mem_cons_of_mem _ (List.of_mem_zip hp).2)
              generalize (co fm).zip xs = ps at q hfl
              refine (?_ : ∀ s3 s4 : Sl, forW tt1 _ _ _ _ [_, _, _, s3, s4] _) .un .un
              induction ps with
              | nil => exact fun s3 s4 => ⟨trivial, q⟩
              | cons p ps ih =>
                intro s3 s4
                obtain ⟨k, it⟩ := p
                have hit := hfl _ List.mem_cons_self
                have ih := fun q => ih q fun p hp => hfl p (List.mem_cons_of_mem _ hp)
                rw [List.all_cons] at q
                refine ⟨trivial, rfl, ?_⟩
                show bc (decide ((⟨#[k]⟩ : Str) = "t")) _ _
                rw [one_t]
                by_cases hk : k = 116
                · subst hk
                  refine spM.of ⟨it, rfl, hit.1, hit.2, ?_⟩
                  show bc (!(isNm it)) _ _
                  simp only [kindOk, if_true] at q
                  cases hn : isNm it with
                  | false =>
                    rw [hn, Bool.false_and] at q
                    exact q
                  | true =>
                    rw [hn, Bool.true_and] at q
                    exact ih q _ _
                · rw [decide_eq_false hk]
                  show bc (!decide ((⟨#[k]⟩ : Str) = "t")) _ _
                  rw [one_t, decide_eq_false hk]
                  show bc (decide ((⟨#[k]⟩ : Str) = "c")) _ _
                  rw [one_c]
                  simp only [kindOk, if_neg hk] at q
                  by_cases hc : k = 99
                  · rw [if_pos hc] at q
                    rw [decide_eq_true hc]
                    refine ⟨trivial, spM.of ⟨it, 0, c - 1, rfl, hit.1, ?_⟩⟩
                    show bc (!(isNum it 0 (c - 1))) _ _
                    cases hn : isNum it 0 (c - 1) with
                    | false =>
                      rw [hn, Bool.false_and] at q
                      exact q
                    | true =>
                      rw [hn, Bool.true_and] at q
                      exact ih q _ _
                  · rw [if_neg hc] at q
                    rw [decide_eq_false hc]
                    refine ⟨trivial, spM.of ⟨it, 0, r - 1, rfl, hit.1, ?_⟩⟩
                    show bc (!(isNum it 0 (r - 1))) _ _
                    cases hn : isNum it 0 (r - 1) with
                    | false =>
                      rw [hn, Bool.false_and] at q
                      exact q
                    | true =>
                      rw [hn, Bool.true_and] at q
                      exact ih q _ _
            · rw [decide_eq_false (by omega)]
              rw [decide_eq_false hl, Bool.false_and] at q
              exact q
        | int => exact ix0 ⟨rfl, rfl, q⟩
        | bl => exact ix0 ⟨rfl, rfl, q⟩
        | non => exact ix0 ⟨rfl, rfl, q⟩
        | lst => exact ix0 ⟨rfl, rfl, q⟩
        | tup => exact ix0 ⟨rfl, rfl, q⟩
        | dic => exact ix0 ⟨rfl, rfl, q⟩
        | opq => cases hx0.1
        | ins => cases hx0.1
        | exc => cases hx0.1
        | lam => cases hx0.1
        | nk => cases hx0.1
    | int => exact ⟨rfl, rfl, q⟩
    | bl => exact ⟨rfl, rfl, q⟩
    | non => exact ⟨rfl, rfl, q⟩
    | lst => exact ⟨rfl, rfl, q⟩
    | str => exact ⟨rfl, rfl, q⟩
    | dic => exact ⟨rfl, rfl, q⟩
    | opq => cases hv
    | ins => cases hv
    | exc => cases hv
    | lam => cases hv
    | nk => cases hv
end
end LW
set_option Elab.async false
set_option linter.all false
set_option maxRecDepth 100000
set_option maxHeartbeats 4000000
namespace EV
open PySem PySem.Spec PyProof.Rows L2
def kD : Key → D
  | .inl i => .int i
  | .inr x => .str x
def valD (kds : List (Key × D)) (k : Key) : Option D := (kds.find? fun kv => decide (kv.1 = k)).map (·.2)
def putKD (kds : List (Key × D)) (k : Key) (v : D) : List (Key × D) :=
  if (kds.any fun kv => decide (kv.1 = k)) = true then kds.map (fun kv => if kv.1 = k then (kv.1, v) else kv) else kds ++ [(k, v)]
section
variable {K : PySem.W.Frag} {G H : Hp} {O : Ow} {B : Bo}
theorem kD_rp {k : Key} {v : V} (r : Rp K G v (kD k)) : v = kV k := by
  cases k <;> cases r <;> rfl
theorem RpK.length : ∀ {fs : List (Key × V)} {ds : List (Key × D)}, RpK K G fs ds → fs.length = ds.length
  | _, _, .nil => rfl
  | _, _, .cons _ r => congrArg (· + 1) (RpK.length r)
theorem RpK.val {k : Key} : ∀ {fs : List (Key × V)} {ds : List (Key × D)}, RpK K G fs ds → (∀ d, valD ds k = some d → ∃ v, valV fs k = some v ∧ Rp K G v d) ∧ (valD ds k = none → valV fs k = none)
  | _, _, .nil => ⟨fun d e => (nomatch e), fun _ => rfl⟩
  | _, _, .cons (k := j) (d := d0) (ds := ds) r t => by
    by_cases e : j = k
    · refine ⟨fun d h => ?_, fun h => ?_⟩
      · have : valD ((j, d0) :: ds) k = some d0 := by simp [valD, List.find?_cons, e]
        rw [this] at h; cases h
        exact ⟨_, valV_pos e, r⟩
      · have : valD ((j, d0) :: ds) k = some d0 := by simp [valD, List.find?_cons, e]
        rw [this] at h; cases h
    · have h1 : valD ((j, d0) :: ds) k = valD ds k := by simp [valD, List.find?_cons, e]
      have ih := RpK.val (k := k) t
      rw [h1]
      refine ⟨fun d h => ?_, fun h => ?_⟩
      · obtain ⟨v, a, b⟩ := ih.1 d h
        exact ⟨v, by rw [valV_neg e]; exact a, b⟩
      · rw [valV_neg e]; exact ih.2 h
theorem RpK.any {k : Key} : ∀ {fs : List (Key × V)} {ds : List (Key × D)}, RpK K G fs ds → (fs.any fun kv => decide (kv.1 = k)) = (ds.any fun kv => decide (kv.1 = k))
  | _, _, .nil => rfl
  | _, _, .cons r t => by simp only [List.any_cons, RpK.any t]
theorem RpK.app : ∀ {xs ys : List (Key × V)} {us ws : List (Key × D)}, RpK K G xs us → RpK K G ys ws → RpK K G (xs ++ ys) (us ++ ws)
  | _, _, _, _, .nil, s => s
  | _, _, _, _, .cons r t, s => .cons r (RpK.app t s)
theorem RpK.mapv {k : Key} {v : V} {d : D} (r : Rp K G v d) : ∀ {fs : List (Key × V)} {ds : List (Key × D)}, RpK K G fs ds → RpK K G (fs.map fun kv => if kv.1 = k then (kv.1, v) else kv) (ds.map fun kv => if kv.1 = k then (kv.1, d) else kv)
  | _, _, .nil => .nil
  | _, _, .cons (k := j) r0 t => by
    simp only [List.map_cons]
    by_cases e : j = k
    · simp only [if_pos e]; exact .cons r (RpK.mapv r t)
    · simp only [if_neg e]; exact .cons r0 (RpK.mapv r t)
theorem RpK.put {k : Key} {v : V} {d : D} {fs : List (Key × V)} {ds : List (Key × D)} (r : Rp K G v d) (t : RpK K G fs ds) : RpK K G (putK fs k v) (putKD ds k d) := by
  unfold putK putKD
  rw [t.any]
  split
  · exact RpK.mapv r t
  · exact t.app (.cons r .nil)
end
section
variable {X : Cx} {L : Pl} {a b c e f o i : Expr} {m ma mb mc : DE} {pos pos' apos cpos : Pos}
abbrev dDNew : DE := fun _ O Q _ => ∀ p, O p = none → Q (.opq (.ref p)) (oset O p (.dic []))
theorem d_dnew : DPE X L (.Dict [] [] pos) dDNew :=
  ⟨fun ρ O Q Q' E E' q _ x p n => q _ _ (x p n), pe_imp pe_dnewK fun σ H Q ⟨G, O, ρ, g, rs, q⟩ p np => q p (g.fresh np) _ _ _ (new_own g np ⟨[], upd_same, .nil⟩) (.opq _)⟩
/-- what a dict has at a key -/
def atDic (x y : D) (Q : Option D → Prop) : Prop := match x with
  | .dic kds => ∃ k, y = kD k ∧ Q (valD kds k)
  | _ => False
theorem atDic_mo {x y : D} {Q Q' : Option D → Prop} (h : ∀ d, Q d → Q' d) (z : atDic x y Q) : atDic x y Q' := by
  unfold atDic at z ⊢
  split at z
  · obtain ⟨k, e, z⟩ := z; exact ⟨k, e, h _ z⟩
  · exact z
theorem atDic_run {K : PySem.W.Frag} {B : Bo} {O : Ow} {G H : Hp} {x y : D} {vx vy : V} {Q : Option D → Prop} (g : Good K B O G H) (rx : Rp K G vx x) (ry : Rp K G vy y) (h : atDic (lk O x) y Q) :
    ∃ (p : Addr) (r : Option V) (d : Option D), vx = .ref p ∧ DGet H p vy r ∧ Q d ∧ (∀ d', d = some d' → ∃ v, r = some v ∧ Rp K G v d') ∧ (d = none → r = none) := by
  have rr := lk_rp g rx
  generalize lk O x = x' at rr h
  unfold atDic at h
  split at h
  · obtain ⟨k, rfl, h⟩ := h
    obtain ⟨p, vs, rfl, hp, rk⟩ := rr.dic g.sub
    have := kD_rp ry
    subst this
    exact ⟨p, _, _, rfl, .inl ⟨_, k, hp, rfl, rfl⟩, h, rk.val.1, rk.val.2⟩
  · exact h.elim
/-- x is a dict, here and behind what follows -/
def isDic (x : D) : Prop := match x with
  | .dic _ => True
  | _ => False
theorem isDic_run {K : PySem.W.Frag} {B : Bo} {O : Ow} {G H : Hp} {x : D} {vx : V} (g : Good K B O G H) (rx : Rp K G vx x) (h : isDic (lk O x)) : ∃ p, vx = .ref p ∧ IsD H p := by
  have rr := lk_rp g rx
  generalize lk O x = x' at rr h
  unfold isDic at h
  split at h
  · obtain ⟨p, vs, rfl, hp, rk⟩ := rr.dic g.sub
    exact ⟨p, rfl, .inl ⟨_, hp⟩⟩
  · exact h.elim
abbrev dDGet2 (ma mb mc : DE) : DE := fun ρ O Q E => ma ρ O (fun x O1 => isDic (lk O1 x) ∧ mb ρ O1 (fun y O2 => mc ρ O2 (fun z O3 => atDic (lk O3 x) y fun d => Q (d.getD z) O3) E) E) E
theorem d_dget2 (hu : X.A.units + 1 < cLine) (ha : DPE X L a ma) (hb : DPE X L b mb) (hc : DPE X L c mc) (hm : M2 X a "get" apos b c cpos) : DPE X L (.Call (.Attribute a "get" apos) [b, c] [] cpos) (dDGet2 ma mb mc) := by
  refine ⟨fun ρ O Q Q' E E' q hx x => ha.mo ρ _ _ _ _ _ (fun _ _ z => ⟨z.1, hb.mo ρ _ _ _ _ _ (fun _ _ y => hc.mo ρ _ _ _ _ _ (fun _ _ y => atDic_mo (fun d w => q _ _ w) y) hx y) hx z.2⟩) hx x, pe_imp (pe_dget2 hu ha.run hb.run hc.run hm) fun σ H Q ⟨G, O, ρ, g, rs, q⟩ => ?_⟩
  refine up_of ha.mo g rs q fun x vx O1 G1 H1 q1 s1 r1 => ?_
  obtain ⟨p, rfl, hd⟩ := isDic_run s1.good r1 q1.1
  refine ⟨p, rfl, hd, ?_⟩
  refine up_of hb.mo s1.good (rs.step s1) (mo_step hb.mo s1 q1.2) fun y vy O2 G2 H2 q2 s2 r2 => ?_
  have s12 := s1.trans s2
  refine up_of hc.mo s2.good (rs.step s12) (mo_step hc.mo s12 q2) fun z vz O3 G3 H3 q3 s3 r3 => ?_
  obtain ⟨p', r, d, ep, hg, hq, h1, h2⟩ := atDic_run s3.good (r1.mono (s2.trans s3).grow) (r2.mono s3.grow) q3
  cases ep
  cases d with
  | none => cases h2 rfl; exact ⟨none, hg, hq _ _ _ (s12.trans s3) r3⟩
  | some d =>
    obtain ⟨v, rfl, rv⟩ := h1 d rfl
    exact ⟨some v, hg, hq _ _ _ (s12.trans s3) rv⟩
/-- d[k] = v, d a handle -/
abbrev dDPut (ma mb mv : DE) : DS := fun A ρ O => mv ρ O (fun v O1 => ma ρ O1 (fun x O2 => mb ρ O2 (fun y O3 => match x with
  | .opq (.ref p) => ∃ kds k, O3 p = some (.dic kds) ∧ y = kD k ∧ kds.length < sizeLine ∧ A.nx ρ (oset O3 p (.dic (putKD kds k v)))
  | _ => False) (fun x O => A.ex x ρ O)) (fun x O => A.ex x ρ O)) (fun x O => A.ex x ρ O)
theorem d_dput (hu : X.A.units + 1 < cLine) (ha : DPE X L a ma) (hb : DPE X L b mb) (hv : DPE X L c mc) (hs : swapsWith c (some (.Subscript a b pos')) pos.line X.env = pure false) : DPS X L (.Assign [.Subscript a b pos'] c pos) (dDPut ma mb mc) := by
  refine ⟨fun A A' ρ O l z => hv.mo _ _ _ _ _ _ (fun v _ y => ha.mo _ _ _ _ _ _ (fun x _ y => hb.mo _ _ _ _ _ _ (fun k _ y => ?_) (fun x _ y => l.ex _ _ _ y) y) (fun x _ y => l.ex _ _ _ y) y) (fun x _ y => l.ex _ _ _ y) z, ps_imp (ps_dput hu ha.run hb.run hv.run hs) fun Dn σ H ⟨G, O, ρ, g, rs, q⟩ => ?_⟩
  · skip
    split at y
    · obtain ⟨kds, k, e1, e2, e3, z⟩ := y
      exact ⟨kds, k, e1, e2, e3, l.nx _ _ z⟩
    · exact y
  refine upE hv.mo g rs q fun v vv O1 G1 H1 q1 s1 r1 => ?_
  refine upE ha.mo s1.good (rs.step s1) (ha.mo _ _ _ _ _ _ (fun x O2 y => hb.mo _ _ _ _ _ _ (fun k O3 y => y) (fun x O z => (dn_step s1).ex x ρ O z) y) (fun x O z => (dn_step s1).ex x ρ O z) q1) fun x vx O2 G2 H2 q2 s2 r2 => ?_
  have s12 := s1.trans s2
  refine upE hb.mo s2.good (rs.step s12) (hb.mo _ _ _ _ _ _ (fun k O3 y => y) (fun x O z => (dn_step s2).ex x ρ O z) q2) fun y vy O3 G3 H3 q3 s3 r3 => ?_
  have s13 := s12.trans s3
  split at q3
  · rename_i p
    obtain ⟨kds, k, eo, rfl, hl, z⟩ := q3
    cases r2
    have := kD_rp r3
    subst this
    obtain ⟨nG, nb, vs, hp, rk⟩ := s3.good.own p _ eo
    have rv := r1.mono (s2.trans s3).grow
    have st := Step.put (o := .dK (putK vs k vv)) (d := .dic (putKD kds k v)) s3.good nG nb ⟨_, upd_same, rk.put rv⟩ (.inl (by rw [eo]; exact Option.some_ne_none _))
    exact ⟨p, _, rfl, DPut.k hp (by rw [rk.length]; exact hl), z _ _ _ (s13.trans st) (rs.step (s13.trans st))⟩
  · exact q3.elim
end
end EV
set_option Elab.async false
set_option linter.all false
set_option maxRecDepth 100000
set_option maxHeartbeats 4000000
namespace EV
open PySem PySem.Spec PyProof.Rows L2
def OSub (O1 O : Ow) : Prop := ∀ p d, O1 p = some d → O p = some d
theorem OSub.refl (O : Ow) : OSub O O := fun _ _ h => h
theorem OSub.trans {A B C : Ow} (a : OSub A B) (b : OSub B C) : OSub A C := fun p d h => b p d (a p d h)
theorem OSub.new {O : Ow} {p : Addr} {d : D} (n : O p = none) : OSub O (oset O p d) := fun q x h => by
  rw [oset_ne (fun e => by rw [e, n] at h; cases h)]; exact h
theorem OSub.none {O1 O : Ow} (s : OSub O1 O) {p : Addr} (h : O p = none) : O1 p = none := by
  cases e : O1 p with
  | none => rfl
  | some d => rw [s p d e] at h; cases h
def frg {α : Type} (Q : α → Ow → Prop) : α → Ow → Prop := fun d O => ∃ O1, OSub O1 O ∧ Q d O1
theorem frg.of {α : Type} {Q : α → Ow → Prop} {d : α} {O : Ow} (h : Q d O) : frg Q d O := ⟨O, OSub.refl O, h⟩
section
variable {K : PySem.W.Frag} {B : Bo} {O O' O1 : Ow} {G H G' H' : Hp}
theorem Good.frg (s : OSub O1 O) (g : Good K B O G H) : Good K B O1 G H := ⟨g.sub, g.box, g.amb, fun p d e => g.own p d (s p d e)⟩
theorem Step.frg (s : OSub O1 O') (t : Step K B O G H O' G' H') : Step K B O G H O1 G' H' :=
  ⟨t.grow, t.good.frg s, t.keep, fun a o h g n => ⟨(t.hid a o h g n).1, s.none (t.hid a o h g n).2⟩, t.still⟩
theorem kv.frg {Q : VK} {d : D} (h : frg (kv K B O G H Q) d O') : kv K B O G H Q d O' := by
  obtain ⟨O1, s, h⟩ := h
  exact fun v G' H' t r => h v G' H' (t.frg s) r
theorem kx.frg {E : XK} {x : Xc} (h : frg (kx K B O G H E) x O') : kx K B O G H E x O' := by
  obtain ⟨O1, s, h⟩ := h
  exact fun d fs G' H' t a r => h d fs G' H' (t.frg s) a r
theorem frg_mo {α : Type} {Q Q' : α → Ow → Prop} (q : ∀ d O, Q d O → Q' d O) {d : α} {O : Ow} (h : EV.frg Q d O) : EV.frg Q' d O := by
  obtain ⟨O1, s, h⟩ := h
  exact ⟨O1, s, q _ _ h⟩
/-- C(..), shown; what was begun is let go where it fails -/
def mkG (C : Addr) (sp : DSp) (ds : List D) (O : Ow) (Q : QD) (E : QX) : Prop := ∀ p, O p = none → spM sp (.opq (.ref p) :: ds) (oset O p (.ins C [])) (fun d O2 => d = .non ∧ ∃ C' fs, O2 p = some (.ins C' fs) ∧ Q (.ins C' fs) (odel O2 p)) (frg E)
theorem mkG_mo {C : Addr} {sp : DSp} {ds : List D} {Q Q' : QD} {E E' : QX} (q : ∀ d O, Q d O → Q' d O) (x : ∀ d O, E d O → E' d O) (h : mkG C sp ds O Q E) : mkG C sp ds O Q' E' := fun p n => spM_mo (fun _ _ z => ⟨z.1, let ⟨y, y', a, b⟩ := z.2; ⟨y, y', a, q _ _ b⟩⟩) (fun _ _ z => frg_mo x z) (h p n)
theorem run_mkG {C x dx : Addr} {sp : DSp} {vs : List V} {ds : List D} {Q : VK} {E : XK} (g : Good K B O G H) (r : RpL K G vs ds) (nx : H x = none) (nd : H dx = none) (hd : dx ≠ x) (h : mkG C sp ds O (kv K B O G H Q) (kx K B O G H E)) :
    spD K sp (.ref x :: vs) (upd (upd H dx (.own x)) x (.ins C dx [])) (fun v H' => v = .non ∧ Q (.ref x) H') E := by
  refine run_mkF g r nx nd hd fun p n => spM_mo (fun _ _ z => z) (fun _ _ z => kx.frg z) (h p n)
end
section
variable {P : Program} {w : World} {K : PySem.W.Frag} {mg : Str → Option Value} {base : Heap}
theorem fn_excF {x qual : Str} {st : Stmt} {f : Addr} {fd : FuncData} {N ps : List Str} {k : Nat} {sp : DSp} {ms : DS} (Fn : Fun K x qual st f fd) (S : FnScope N ps (defScope st)) (len : ∀ ds O Q E, sp ds O Q E → ds.length = ps.length)
    (hb : ∀ (cdv : Value) (A : Around) (outer : List Env) (s : Shared) (H : Hp) (E : XK), Room k (A.deeper (envOfC qual (defScope st) s.heap.objs.size f cdv)) → Tk (cxOf (L2.CX P w) P w K mg base N qual (defScope st) f cdv A outer s H E) ⟨bo0, fun _ => E⟩ →
      DPSs (cxOf (L2.CX P w) P w K mg base N qual (defScope st) f cdv A outer s H E) ⟨bo0, fun _ => E⟩ (defBody st) ms)
    (h : ∀ ds O Q E, sp ds O Q E → ms (endsD (frg Q) (frg E)) (startD N ds) O) : FnOk P w K mg base (L2.CX P w) (k + 1) f fd ps (spD K sp) := by
  refine Fn.okX S (fun vs H Q E ⟨G, O, ds, g, r, Q0, E0, h0, _⟩ => ?_) (fun cdv A outer s H vs Q E hr ⟨G, O, ds, g, r, Q0, E0, h0, hq, hx⟩ => ?_)
  · rw [r.length]; exact len _ _ _ _ h0
  · have b := hb cdv A outer s H E hr (takes_of rfl rfl rfl rfl)
    refine ⟨_, b.run, G, O, startD N ds, g, start_rp r, b.mo (endsD (frg Q0) (frg E0)) _ _ _ ⟨fun ρ O1 z σ' G' H' s _ => kv.frg (frg_mo hq z) _ G' H' s .non, fun d O1 z v G' H' s rv => kv.frg (frg_mo hq z) v G' H' s rv, fun _ _ z => z.elim, fun _ _ z => z.elim, fun x ρ _ z σ' d fs G' H' s _ a rf => kx.frg (frg_mo hx z) d fs G' H' s a rf⟩ (h ds O Q0 E0 h0)⟩
end
end EV
set_option Elab.async false
set_option linter.all false
set_option maxRecDepth 100000
set_option maxHeartbeats 4000000
set_option pp.maxSteps 400
namespace LW
open PySem PySem.Spec PyProof.Rows L2 EV
theorem hud {A : Around} {k : Nat} (hr : Room k A) : A.units + 1 < cLine := by have := hr.un; omega
abbrev s_check_rows : Stmt := topS 27
abbrev N_check_rows : List Str := ["cells", "rows", "places", "at", "step"]
theorem sc_check_rows : FnScope N_check_rows ["cells", "rows"] (defScope s_check_rows) := ⟨rfl, rfl, rfl, by decide +kernel, rfl, by decide +kernel, by decide +kernel⟩
def lastT : List D := [.str "jump", .str "refuse", .str "end"]
def placesN : List (Str × Int) := [("has", 1), ("link", 2)]
abbrev Pls := List (Key × Int)
def toDic (pl : Pls) : List (Key × D) := pl.map fun p => (p.1, .int p.2)
def valI (pl : Pls) (k : Key) : Option Int := (pl.find? fun kv => decide (kv.1 = k)).map (·.2)
def putI (pl : Pls) (k : Key) (v : Int) : Pls := if (pl.any fun kv => decide (kv.1 = k)) = true then pl.map (fun kv => if kv.1 = k then (kv.1, v) else kv) else pl ++ [(k, v)]
theorem valD_dic (pl : Pls) (k : Key) : valD (toDic pl) k = (valI pl k).map D.int := by
  induction pl with
  | nil => rfl
  | cons p pl ih =>
    unfold valD valI toDic at ih ⊢
    simp only [List.map_cons, List.find?_cons]
    by_cases e : p.1 = k
    · simp [e]
    · simp only [e, decide_false]; exact ih
theorem putD_dic (pl : Pls) (k : Key) (v : Int) : putKD (toDic pl) k (.int v) = toDic (putI pl k v) := by
  have h : ((toDic pl).any fun kv => decide (kv.1 = k)) = (pl.any fun kv => decide (kv.1 = k)) := by simp [toDic, List.any_map, Function.comp_def]
  unfold putKD putI
  rw [h]
  split
  · simp only [toDic, List.map_map]
    refine List.map_congr_left fun p _ => ?_
    simp only [Function.comp_def]
    split <;> rfl
  · simp [toDic]
theorem putI_len (pl : Pls) (k : Key) (v : Int) : (putI pl k v).length ≤ pl.length + 1 := by
  unfold putI
  split <;> simp
theorem places_look (z : Str) : placesT.lookup z = (placesN.lookup z).map D.int := by
  simp only [placesT, placesN, List.lookup]
  split <;> first | rfl | (split <;> rfl)
/-- the first row that cannot stand -/
def rowsBad (c n : Int) : List D → Nat → Pls → Option Nat
  | [], _, _ => none
  | d :: ds, i, pl => if isStp d c n = false then some i else match d with
    | .tup (.str z :: xs) => match placesN.lookup z, xs with
      | some v, .str y :: _ => if (valI pl (.inr y)).getD v = v then rowsBad c n ds (i + 1) (putI pl (.inr y) v) else some i
      | some _, _ => some i
      | none, _ => rowsBad c n ds (i + 1) pl
    | _ => some i
def lastOk : D → Bool
  | .tup (.str z :: _) => (["jump", "refuse", "end"] : List Str).any fun y => decide (z = y)
  | _ => false
def chkRows (c : Int) (rs : List D) : Option Nat := match rowsBad c rs.length rs 0 [] with
  | some i => some i
  | none => match rs.getLast? with
    | none => some 0
    | some d => if lastOk d then none else some (rs.length - 1)
def stepX (C : Addr) (i : Nat) : Xc := (C, errD "InvalidStep" ["at"] [.int i])
def rowsS (C : Addr) : DSp := fun ds O Q E => ∃ c d rs, ds = [.int c, d] ∧ (d = .lst rs ∨ d = .tup rs) ∧ rs.length < sizeLine ∧ (∀ r ∈ rs, Flat1 r) ∧ (chkRows c rs = none → Q .non O) ∧ ∀ i, chkRows c rs = some i → E (stepX C i) O
theorem stp_form {d : D} {c n : Int} (h : isStp d c n = true) : ∃ z xs, d = .tup (.str z :: xs) := by
  unfold isStp at h
  split at h
  · exact ⟨_, _, rfl⟩
  · cases h
theorem bad_all {c n : Int} : ∀ {ds : List D} {i : Nat} {pl : Pls}, rowsBad c n ds i pl = none → ∀ r ∈ ds, isStp r c n = true
  | [], _, _, _, r, h => by cases h
  | d :: ds, i, pl, e, r, h => by
    unfold rowsBad at e
    split at e
    · cases e
    rename_i h1
    have h1 : isStp d c n = true := by simpa using h1
    rcases List.mem_cons.mp h with rfl | h2
    · exact h1
    split at e
    · split at e
      · split at e
        · exact bad_all e r h2
        · cases e
      · cases e
      · exact bad_all e r h2
    · cases e
theorem nm_str {d : D} (h : isNm d = true) : ∃ y, d = .str y := by
  unfold isNm at h
  split at h
  · exact ⟨_, rfl⟩
  · cases h
theorem stp_place {z : Str} {xs : List D} {c n v : Int} (h : isStp (.tup (.str z :: xs)) c n = true) (hp : placesN.lookup z = some v) : ∃ y xs', xs = .str y :: xs' := by
  have hz : z = "has" ∨ z = "link" := by
    by_cases h1 : z = "has"
    · exact .inl h1
    by_cases h2 : z = "link"
    · exact .inr h2
    have e1 : (z == ("has" : Str)) = false := beq_eq_false_iff_ne.mpr h1
    have e2 : (z == ("link" : Str)) = false := beq_eq_false_iff_ne.mpr h2
    simp [placesN, List.lookup, e1, e2] at hp
  have core : ∀ fm : Str, formsT.lookup z = some (.str fm) → (∃ r, co fm = 116 :: r) → ∃ y xs', xs = .str y :: xs' := by
    intro fm e ⟨r, er⟩
    simp only [isStp, e, Bool.and_eq_true, decide_eq_true_eq] at h
    obtain ⟨h1, h2⟩ := h
    cases xs with
    | nil => rw [← co_len, er] at h1; cases h1
    | cons x xs =>
      rw [er, List.zip_cons_cons, List.all_cons, Bool.and_eq_true] at h2
      have : isNm x = true := by simpa [kindOk] using h2.1
      obtain ⟨y, rfl⟩ := nm_str this
      exact ⟨y, xs, rfl⟩
  rcases hz with rfl | rfl
  · exact core "tcj" (by rfl) ⟨[99, 106], by decide +kernel⟩
  · exact core "tccj" (by rfl) ⟨[99, 99, 106], by decide +kernel⟩
theorem tg_pair {i j : Nat} {x y : D} {ρ : Slots} {Q : Slots → Prop} (ρ' : Slots) (e : (ρ.set i (.sh x)).set j (.sh y) = ρ') (h : Q ρ') : dgCons (dgName i) (dgCons (dgName j) dgNil) [x, y] ρ Q := by subst e; exact h
theorem bcT {P Q : Prop} (h : P) : bc true P Q := h
theorem bcF {P Q : Prop} (h : Q) : bc false P Q := h
theorem bcN {P : Prop} {A : DEnds} {ρ : Slots} {O : Ow} (h : A.nx ρ O) : bc false P (dNext A ρ O) := h
theorem st_if {t : DT} {u v rest : DS} {A : DEnds} {ρ : Slots} {O : Ow} (b : Bool) (h : ∀ Q E, Q b O → t ρ O Q E) (k : bc b (u { A with nx := rest A } ρ O) (v { A with nx := rest A } ρ O)) : dSeq (dIfS t u v) rest A ρ O := h _ _ k
theorem st_if1 {t : DT} {u v : DS} {A : DEnds} {ρ : Slots} {O : Ow} (b : Bool) (h : ∀ Q E, Q b O → t ρ O Q E) (k : bc b (u A ρ O) (v A ρ O)) : dIfS t u v A ρ O := h _ _ k
theorem st_for {mi : DI} {g : DG} {b rest : DS} {A : DEnds} {ρ : Slots} {O : Ow} (xs : List D) (h : ∀ Q E, Q (tt1, xs) O → mi ρ O Q E) (k : forW tt1 g b { A with nx := rest A } xs ρ O) : dSeq (dFor mi g b) rest A ρ O := h _ _ k
theorem val_enum {mA : DA} {ρ : Slots} {O : Ow} {d : D} {rs : List D} (hd : d = .lst rs ∨ d = .tup rs) (h : ∀ Q E, Q [d] O → mA ρ O Q E) : ∀ Q E, Q (tt1, enumL rs) O → dEnum mA ρ O Q E := fun Q E q => h _ _ (by
  rcases hd with rfl | rfl <;> exact q)
theorem val_len {mA : DA} {ρ : Slots} {O : Ow} {d : D} {rs : List D} (hd : d = .lst rs ∨ d = .tup rs) (h : ∀ Q E, Q [d] O → mA ρ O Q E) : ∀ Q E, Q (.int rs.length) O → dCB lenO mA ρ O Q E := fun Q E q => h _ _ (by
  rcases hd with rfl | rfl <;> exact q)
theorem val_ix {ma mb : DE} {ρ : Slots} {O : Ow} {d : D} {rs : List D} {i : Int} {y : D} (hd : d = .lst rs ∨ d = .tup rs) (h : ∀ Q E, Q d O → ma ρ O Q E) (hi : ∀ Q E, Q (.int i) O → mb ρ O Q E) (e : atI rs i = some y) : ∀ Q E, Q y O → dOp ixD ma mb ρ O Q E := fun Q E q => h _ _ (hi _ _ (by
  rcases hd with rfl | rfl
  · show ixP (.lst rs) (.int i) _
    simp only [ixP, e]; exact q
  · show ixP (.tup rs) (.int i) _
    simp only [ixP, e]; exact q))
theorem val_tst {m : DE} {ρ : Slots} {O : Ow} (b : Bool) (h : ∀ Q E, Q (.bl b) O → m ρ O Q E) : ∀ Q E, Q b O → dTest m ρ O Q E := fun Q E q => h _ _ q
theorem val_tstB {m : DE} {ρ : Slots} {O : Ow} (b : Bool) (h : ∀ Q E, Q (.bl b) O → m ρ O Q E) : ∀ Q E, Q b O → dTestB m ρ O Q E := fun Q E q => h _ _ q
theorem val_not {t : DT} {ρ : Slots} {O : Ow} (b : Bool) (h : ∀ Q E, Q b O → t ρ O Q E) : ∀ Q E, Q (!b) O → dNot t ρ O Q E := fun Q E q => h _ _ q
theorem val_raise {C : Addr} {code : Str} {names : List Str} {mA : DA} {A : DEnds} {ρ : Slots} {O : Ow} (xs : List D) (hl : xs.length = names.length) (h : ∀ Q E, Q xs O → mA ρ O Q E) (k : A.ex (C, errD code names xs) ρ O) : dRaise C code names mA A ρ O := h _ _ ⟨hl, k⟩
theorem val_call {sp : DSp} {mA : DA} {ρ : Slots} {O : Ow} (xs : List D) (y : D) (h : ∀ Q E, Q xs O → mA ρ O Q E) (k : ∀ Q E, Q y O → sp xs O Q E) : ∀ Q E, Q y O → dCall sp mA ρ O Q E := fun Q E q => h _ _ (spM.of (k _ _ q))
theorem val_ixK {a : Addr} {kvs : List (Str × D)} {ma mb : DE} {ρ : Slots} {O : Ow} (z : Str) (y : D) (h : ∀ Q E, Q (.opq (.ref a)) O → ma ρ O Q E) (hi : ∀ Q E, Q (.str z) O → mb ρ O Q E) (e : kvs.lookup z = some y) : ∀ Q E, Q y O → dOp (pu (ixK a kvs)) ma mb ρ O Q E := fun Q E q => h _ _ (hi _ _ ⟨rfl, by rw [e]; exact q⟩)
theorem val_dget2 {ma mb mc : DE} {ρ : Slots} {O : Ow} (x y z : D) (kds : List (Key × D)) (k : Key) (ha : ∀ Q E, Q x O → ma ρ O Q E) (hb : ∀ Q E, Q y O → mb ρ O Q E) (hc : ∀ Q E, Q z O → mc ρ O Q E) (e : lk O x = .dic kds) (ey : y = kD k) : ∀ Q E, Q ((valD kds k).getD z) O → dDGet2 ma mb mc ρ O Q E := fun Q E q => ha _ _ ⟨by rw [e]; trivial, hb _ _ (hc _ _ (by rw [e]; exact ⟨k, ey, q⟩))⟩
theorem st_dput {ma mb mv : DE} {A : DEnds} {ρ : Slots} {O : Ow} (p : Addr) (y v : D) (kds : List (Key × D)) (k : Key) (ha : ∀ Q E, Q (.opq (.ref p)) O → ma ρ O Q E) (hb : ∀ Q E, Q y O → mb ρ O Q E) (hv : ∀ Q E, Q v O → mv ρ O Q E) (eo : O p = some (.dic kds)) (ey : y = kD k) (hl : kds.length < sizeLine) (n : A.nx ρ (oset O p (.dic (putKD kds k v)))) : dDPut ma mb mv A ρ O := hv _ _ (ha _ _ (hb _ _ ⟨kds, k, eo, ey, hl, n⟩))
section
variable {P : Program} {w : World} {K : PySem.W.Frag} {mg : Str → Option Value} {base : Heap}
theorem ok_check_rows {f fS aP aL C : Addr} {fd fdS : FuncData} (F : Fun K "check_rows" "check_rows" s_check_rows f fd) (G_is_step : FnOk P w K mg base CX0 2 fS fdS ["value", "cells", "rows"] (spD K stepS)) (T_is_step : Gf K mg "is_step" fS fdS ["value", "cells", "rows"])
    (m_len : mg "len" = none) (m_enumerate : mg "enumerate" = none) (M_PLACES : mg "PLACES" = some (.ref aP)) (T_PLACES : TabK K w aP placesT) (M_LAST : mg "LAST" = some (.ref aL)) (B_LAST : gtupB K aL lastT = true)
    (E_InvalidStep : Err P w K mg base 2 C "InvalidStep" ["at"]) (M_InvalidStep : mg "InvalidStep" = some (.ref C)) :
    FnOk P w K mg base (L2.CX P w) 3 f fd ["cells", "rows"] (spD K (rowsS C)) := by
  refine fn_excF F sc_check_rows (fun ds O Q E h => ?_) (fun cdv A outer s H E hr tk =>
    (d_scons (d_set (i := 2) sc_check_rows.nd rfl (.inl rfl) d_dnew rfl (.inl rfl))
      (d_scons (d_for (passes_of rfl) rfl (d_enum rfl m_enumerate (d_cons (d_var (i := 1) rfl (.inl rfl) (by decide) (by decide)) d_nil rfl) rfl) (dg_tup (n := 2) rfl (dgs_cons (dg_name (i := 3) sc_check_rows.nd rfl (.inl rfl) (.inl rfl)) (dgs_cons (dg_name (i := 4) sc_check_rows.nd rfl (.inl rfl) (.inl rfl)) dgs_nil rfl) rfl) rfl rfl) (d_scons (d_ifS (d_tnot (d_test (d_call G_is_step (hr.mono (by decide)) rfl T_is_step.m T_is_step.k T_is_step.b (fun _ => pass0A) (d_cons (d_var (i := 4) rfl (.inl rfl) (by decide) (by decide)) (d_cons (d_var (i := 0) rfl (.inl rfl) (by decide) (by decide)) (d_cons (d_callB cd_len rfl m_len boot_len (d_cons (d_var (i := 1) rfl (.inl rfl) (by decide) (by decide)) d_nil rfl) (by decide) (by decide) rfl rfl) d_nil rfl) rfl) rfl) (by decide) rfl rfl) (by intro _; rfl))) (d_sone (d_raise rfl tk E_InvalidStep (hr.mono (by decide)) rfl M_InvalidStep (d_cons (d_var (i := 3) rfl (.inl rfl) (by decide) (by decide)) d_nil rfl) (by decide) rfl rfl)) d_snil)
      (d_sone (d_ifS (d_tcmp (od_inK T_PLACES) (d_ix (d_var (i := 4) rfl (.inl rfl) (by decide) (by decide)) d_int (fun _ _ => rfl)) (d_gdict rfl M_PLACES (by decide)) rfl) (d_scons (d_ifS (d_tcmp (od_ne hr.units) (d_dget2 (hud hr) (d_var (i := 2) rfl (.inl rfl) (by decide) (by decide)) (d_ix (d_var (i := 4) rfl (.inl rfl) (by decide) (by decide)) d_int (fun _ _ => rfl)) (d_ixK T_PLACES (d_gdict rfl M_PLACES (by decide)) (d_ix (d_var (i := 4) rfl (.inl rfl) (by decide) (by decide)) d_int (fun _ _ => rfl)) (fun _ _ => rfl)) ⟨rfl, rfl, rfl, rfl⟩) (d_ixK T_PLACES (d_gdict rfl M_PLACES (by decide)) (d_ix (d_var (i := 4) rfl (.inl rfl) (by decide) (by decide)) d_int (fun _ _ => rfl)) (fun _ _ => rfl)) (nomark _)) (d_sone (d_raise rfl tk E_InvalidStep (hr.mono (by decide)) rfl M_InvalidStep (d_cons (d_var (i := 3) rfl (.inl rfl) (by decide) (by decide)) d_nil rfl) (by decide) rfl rfl)) d_snil)
      (d_sone (d_dput (hud hr) (d_var (i := 2) rfl (.inl rfl) (by decide) (by decide)) (d_ix (d_var (i := 4) rfl (.inl rfl) (by decide) (by decide)) d_int (fun _ _ => rfl)) (d_ixK T_PLACES (d_gdict rfl M_PLACES (by decide)) (d_ix (d_var (i := 4) rfl (.inl rfl) (by decide) (by decide)) d_int (fun _ _ => rfl)) (fun _ _ => rfl)) rfl))) d_snil))) (fun _ => rfl))
      (d_scons (d_ifS (d_tcmp (od_eq hr.units) (d_callB cd_len rfl m_len boot_len (d_cons (d_var (i := 1) rfl (.inl rfl) (by decide) (by decide)) d_nil rfl) (by decide) (by decide) rfl rfl) d_int (nomark _)) (d_sone (d_raise rfl tk E_InvalidStep (hr.mono (by decide)) rfl M_InvalidStep (d_cons d_int d_nil rfl) (by decide) rfl rfl)) d_snil)
      (d_sone (d_ifS (d_tcmp od_notinS (d_ix (d_ix (d_var (i := 1) rfl (.inl rfl) (by decide) (by decide)) (d_neg d_int) (fun _ _ => rfl)) d_int (fun _ _ => rfl)) (d_gtup B_LAST rfl M_LAST (by decide)) rfl) (d_sone (d_raise rfl tk E_InvalidStep (hr.mono (by decide)) rfl M_InvalidStep (d_cons (d_op od_sub (d_callB cd_len rfl m_len boot_len (d_cons (d_var (i := 1) rfl (.inl rfl) (by decide) (by decide)) d_nil rfl) (by decide) (by decide) rfl rfl) d_int) d_nil rfl) (by decide) rfl rfl)) d_snil)))))) (fun ds O Q E h => ?_)
  · obtain ⟨c, d, rs, rfl, _⟩ := h; rfl
  · obtain ⟨c, d, rs, rfl, hd, hl, hr, q, qx⟩ := h
    rw [show startD N_check_rows [.int c, d] = [.sh (.int c), .sh d, .un, .un, .un] from rfl]
    intro p np
    refine st_norm (ρ' := [.sh (.int c), .sh d, .sh (.opq (.ref p)), .un, .un]) rfl ?_
    dsimp only
    refine st_for (enumL rs) ?_ ?_
    · exact val_enum hd fun Q E q => q
    have sO : ∀ x, OSub O (oset O p x) := fun x => OSub.new np
    have dlen : ∀ pl : Pls, (toDic pl).length = pl.length := fun pl => by simp [toDic]
    show forW tt1 _ _ _ ((rs.zipIdx 0).map fun q => D.tup [.int q.2, q.1]) _ (oset O p (.dic (toDic [])))
    obtain ⟨R, hR⟩ : ∃ R, R = rowsBad c rs.length rs 0 [] := ⟨_, rfl⟩
    refine (?_ : ∀ (ds : List D) (i : Nat) (pl : Pls) (s3 s4 : Sl), (∀ r ∈ ds, Flat1 r) → i + ds.length = rs.length → pl.length ≤ i → rowsBad c rs.length ds i pl = R → forW tt1 _ _ _ ((ds.zipIdx i).map fun q => D.tup [.int q.2, q.1]) [.sh (.int c), .sh d, .sh (.opq (.ref p)), s3, s4] (oset O p (.dic (toDic pl)))) rs 0 [] .un .un hr (by simp) (by simp) hR.symm
    intro ds
    induction ds with
    | nil =>
      intro i pl s3 s4 _ hi _ hb
      have e0 : rowsBad c rs.length rs 0 [] = none := by rw [← hR]; exact hb.symm
      refine ⟨trivial, ?_⟩
      dsimp only
      refine st_if (decide ((rs.length : Int) = 0)) ?_ ?_
      · exact val_tstB _ (val_op (.int rs.length) (.int 0) _ (val_len hd fun Q E q => q) (fun Q E q => q) (fun Q q => q))
      by_cases hz : rs = []
      · have hb' : chkRows c rs = some 0 := by unfold chkRows; rw [e0, hz]; rfl
        rw [decide_eq_true (by rw [hz]; rfl)]
        refine bcT (val_raise [.int 0] rfl ?_ ?_)
        · exact fun Q E q => q
        · exact ⟨O, sO _, qx 0 hb'⟩
      · obtain ⟨xs, y, exs⟩ : ∃ xs y, rs = xs ++ [y] := ⟨rs.dropLast, rs.getLast hz, (List.dropLast_concat_getLast hz).symm⟩
        have hl0 : 0 < rs.length := List.length_pos_iff.mpr hz
        rw [decide_eq_false (by omega)]
        have hy : isStp y c rs.length = true := bad_all e0 y (by rw [exs]; simp)
        obtain ⟨z, zs, rfl⟩ := stp_form hy
        have hlast : rs.getLast? = some (.tup (.str z :: zs)) := by rw [exs]; simp
        have hck : chkRows c rs = if lastOk (.tup (.str z :: zs)) then none else some (rs.length - 1) := by
          unfold chkRows; rw [e0, hlast]
        refine bcN ?_
        dsimp only
        refine st_if1 (!lastOk (.tup (.str z :: zs))) ?_ ?_
        · exact val_tstB _ (val_op (.str z) (.tup lastT) _ (val_ix (.inr rfl) (val_ix hd (fun Q E q => q) (i := -1) (fun Q E q => q) (by rw [exs]; exact atI_last _ _)) (fun Q E q => q) (atI_nat (xs := .str z :: zs) (j := 0) rfl)) (fun Q E q => q) (fun Q q => q))
        cases hk : lastOk (.tup (.str z :: zs)) with
        | true =>
          rw [hk, if_pos rfl] at hck
          exact ⟨O, sO _, q hck⟩
        | false =>
          rw [hk, if_neg (by decide)] at hck
          refine bcT (val_raise [.int ((rs.length : Int) - 1)] rfl ?_ ?_)
          · exact val_cons _ _ (val_op (.int rs.length) (.int 1) _ (val_len hd fun Q E q => q) (fun Q E q => q) (fun Q q => ⟨trivial, q⟩)) val_nil
          · have := qx _ hck
            unfold stepX at this
            rw [show ((rs.length - 1 : Nat) : Int) = (rs.length : Int) - 1 by omega] at this
            exact ⟨O, sO _, this⟩
    | cons r ds ih =>
      intro i pl s3 s4 hfl hi hpl hb
      have bad : R = some i → chkRows c rs = some i := fun h => by unfold chkRows; rw [← hR, h]
      have fr := hfl r List.mem_cons_self
      refine ⟨trivial, rfl, ?_⟩
      refine tg_pair [.sh (.int c), .sh d, .sh (.opq (.ref p)), .sh (.int i), .sh r] rfl ?_
      dsimp only
      refine st_if (!isStp r c rs.length) ?_ ?_
      · exact val_not _ (val_tst _ (val_call [r, .int c, .int rs.length] _ (val_cons _ _ (fun Q E q => q) (val_cons _ _ (fun Q E q => q) (val_cons _ _ (val_len hd fun Q E q => q) val_nil))) (fun Q E q => ⟨r, c, rs.length, rfl, fr, q⟩)))
      unfold rowsBad at hb
      cases hs : isStp r c rs.length with
      | false =>
        rw [hs, if_pos rfl] at hb
        refine bcT (val_raise [.int i] rfl ?_ ?_)
        · exact fun Q E q => q
        · exact ⟨O, sO _, qx i (bad hb.symm)⟩
      | true =>
        rw [hs, if_neg (by decide)] at hb
        obtain ⟨z, zs, rfl⟩ := stp_form hs
        dsimp only at hb
        have v0 : ∀ O' Q E, Q (.str z) O' → dOp ixD (dVar 4) (dC (.int 0)) [.sh (.int c), .sh d, .sh (.opq (.ref p)), .sh (.int i), .sh (.tup (.str z :: zs))] O' Q E := fun O' => val_ix (.inr rfl) (fun Q E q => q) (fun Q E q => q) (atI_nat (xs := .str z :: zs) (j := 0) rfl)
        refine bcN ?_
        dsimp only
        refine st_if1 (placesN.lookup z).isSome ?_ ?_
        · refine val_tstB _ (val_op (.str z) (.opq (.ref aP)) _ (v0 _) (fun Q E q => q) (fun Q q => ⟨rfl, ?_⟩))
          rw [places_look]
          simpa using q
        have nxt : ∀ pl', pl'.length ≤ i + 1 → rowsBad c rs.length ds (i + 1) pl' = R → _ := fun pl' h1 h2 => ih (i + 1) pl' (.sh (.int i)) (.sh (.tup (.str z :: zs))) (fun r hr => hfl r (List.mem_cons_of_mem _ hr)) (by simp at hi; omega) h1 h2
        cases hv : placesN.lookup z with
        | none =>
          rw [hv] at hb
          refine bcN ?_
          dsimp only
          exact nxt pl (by omega) hb
        | some v =>
          obtain ⟨y, ys, rfl⟩ := stp_place hs hv
          rw [hv] at hb
          dsimp only at hb
          have v1 : ∀ O' Q E, Q (.str y) O' → dOp ixD (dVar 4) (dC (.int 1)) [.sh (.int c), .sh d, .sh (.opq (.ref p)), .sh (.int i), .sh (.tup (.str z :: .str y :: ys))] O' Q E := fun O' => val_ix (.inr rfl) (fun Q E q => q) (fun Q E q => q) (atI_nat (xs := .str z :: .str y :: ys) (j := 1) rfl)
          have vP : ∀ O' Q E, Q (.int v) O' → dOp (pu (ixK aP placesT)) (dC (.opq (.ref aP))) (dOp ixD (dVar 4) (dC (.int 0))) [.sh (.int c), .sh d, .sh (.opq (.ref p)), .sh (.int i), .sh (.tup (.str z :: .str y :: ys))] O' Q E := fun O' => val_ixK z (.int v) (fun Q E q => q) (v0 O') (by rw [places_look, hv]; rfl)
          refine bcT ?_
          refine st_if (!decide ((valI pl (.inr y)).getD v = v)) ?_ ?_
          · refine val_tstB _ (val_op (.int ((valI pl (.inr y)).getD v)) (.int v) _ ?_ (vP _) (fun Q q => q))
            have := val_dget2 (ma := dVar 2) (ρ := [.sh (.int c), .sh d, .sh (.opq (.ref p)), .sh (.int i), .sh (.tup (.str z :: .str y :: ys))]) (.opq (.ref p)) (.str y) (.int v) (toDic pl) (.inr y) (fun Q E q => q) (v1 (oset O p (.dic (toDic pl)))) (vP _) (lk_of oset_same) rfl
            rw [valD_dic, show ((valI pl (.inr y)).map D.int).getD (.int v) = .int ((valI pl (.inr y)).getD v) by cases valI pl (.inr y) <;> rfl] at this
            exact this
          by_cases hk : (valI pl (.inr y)).getD v = v
          · rw [if_pos hk] at hb
            rw [decide_eq_true hk]
            refine bcN ?_
            dsimp only
            refine st_dput p (.str y) (.int v) (toDic pl) (.inr y) (fun Q E q => q) (v1 _) (vP _) oset_same rfl (by rw [dlen]; simp at hi; omega) ?_
            rw [oset_oset, putD_dic]
            exact nxt _ (Nat.le_trans (putI_len pl _ _) (by omega)) hb
          · rw [if_neg hk] at hb
            rw [decide_eq_false hk]
            refine bcT (val_raise [.int i] rfl ?_ ?_)
            · exact fun Q E q => q
            · exact ⟨O, sO _, qx i (bad hb.symm)⟩
end
end LW
set_option Elab.async false
set_option linter.all false
set_option maxRecDepth 100000
set_option maxHeartbeats 4000000
set_option pp.maxSteps 400
namespace LW
open PySem PySem.Spec PyProof.Rows L2 EV
abbrev s_Reader_init : Stmt := clsS 28 1
abbrev N_Reader_init : List Str := ["self", "cells", "rows", "inputs", "at", "most"]
theorem sc_Reader_init : FnScope N_Reader_init ["self", "cells", "rows", "inputs"] (defScope s_Reader_init) := ⟨rfl, rfl, rfl, by decide +kernel, rfl, by decide +kernel, by decide +kernel⟩
/-- the first cell with a wrong range -/
def cellBad (cs : List D) : Option Nat := (List.range cs.length).find? fun i => !isNum (cs.getD i .non) 0 10000
def isZero : D → Bool
  | .int k => decide (k = 0)
  | _ => false
/-- the first of the first cells that is not narrow -/
def wideAt (cs : List D) (n : Nat) : Option Nat := (List.range n).find? fun i => !isZero (cs.getD i .non)
theorem find_at {n i : Nat} {p : Nat → Bool} (hi : i < n) (h : p i = true) (hj : ∀ j, j < i → p j = false) : (List.range n).find? p = some i :=
  List.find?_range_eq_some.mpr ⟨h, List.mem_range.mpr hi, fun j h => by simp [hj j h]⟩
theorem find_no {n : Nat} {p : Nat → Bool} (hj : ∀ j, j < n → p j = false) : (List.range n).find? p = none :=
  List.find?_range_eq_none.mpr fun j h => by simp [hj j h]
def rdX (A : Str → Addr) (cs rs : List D) (inp : D) : Option Xc :=
  if 300 < cs.length then some (A "TooMany", errD "TooMany" ["most"] [.int 300])
  else match cellBad cs with
    | some i => some (A "InvalidCell", errD "InvalidCell" ["at"] [.int i])
    | none => if isNum inp 0 cs.length = false then some (A "InvalidNumber", errD "InvalidNumber" ["given"] [inp])
      else match inp with
        | .int n => match wideAt cs n.toNat with
          | some i => some (A "InvalidCell", errD "InvalidCell" ["at"] [.int i])
          | none => if 10000 < rs.length then some (A "TooMany", errD "TooMany" ["most"] [.int 10000])
            else (chkRows cs.length rs).map fun i => stepX (A "InvalidStep") i
        | _ => none
def rdF (cs rs : List D) (inp : D) : List (Str × D) := [("cells", .tup cs), ("rows", .tup rs), ("inputs", inp)]
def Seq (d : D) (xs : List D) : Prop := d = .lst xs ∨ d = .tup xs
def iniS (A : Str → Addr) (C : Addr) : DSp := fun ds O Q E => ∃ p dc dr inp cs rs, ds = [.opq (.ref p), dc, dr, inp] ∧ O p = some (.ins C []) ∧ Seq dc cs ∧ Seq dr rs ∧ cs.length ≤ sizeLine ∧ rs.length < sizeLine ∧ (∀ c ∈ cs, (tyD c).isSome = true) ∧ (tyD inp).isSome = true ∧ (∀ r ∈ rs, Flat1 r) ∧
  (rdX A cs rs inp = none → Q .non (oset O p (.ins C (rdF cs rs inp)))) ∧ ∀ x, rdX A cs rs inp = some x → E x O
theorem st_forJ {mi : DI} {g : DG} {b rest : DS} {A : DEnds} {ρ : Slots} {O : Ow} (xs : List D) (J : Nat → Slots → Prop) (h : ∀ Q E, Q (tt1, xs) O → mi ρ O Q E) (j0 : J 0 ρ)
    (step : ∀ i d, xs[i]? = some d → ∀ ρ, J i ρ → ∀ N : Slots → Ow → Prop, (∀ r, J (i + 1) r → N r O) → g d ρ fun ρ' => b { nx := N, rt := A.rt, bk := rest A, ct := N, ex := A.ex } ρ' O) (k : ∀ r, J xs.length r → rest A r O) : dSeq (dFor mi g b) rest A ρ O := by
  refine h _ _ ?_
  refine forW_at (I := tt1) xs (fun i r O' => O' = O ∧ J i r) (fun _ _ _ _ => trivial) ?_ ?_ (i := 0) rfl (Nat.zero_le _) ⟨rfl, j0⟩
  · rintro i d e ρ O' ⟨rfl, hj⟩ N hN
    exact step i d e ρ hj N fun r hr => hN r _ ⟨rfl, hr⟩
  · rintro r O' ⟨rfl, hj⟩
    exact k r hj
theorem tg_one {i : Nat} {x : D} {ρ : Slots} {Q : Slots → Prop} (ρ' : Slots) (e : ρ.set i (.sh x) = ρ') (h : Q ρ') : dgName i x ρ Q := by subst e; exact h
theorem tg_tup {n : Nat} {gs : DGs} {xs : List D} {ρ : Slots} {Q : Slots → Prop} (e : xs.length = n) (h : gs xs ρ Q) : dgTup n gs (.tup xs) ρ Q := ⟨e, h⟩
theorem enum_at {xs : List D} {i : Nat} {d : D} (h : (enumL xs)[i]? = some d) : ∃ x, xs[i]? = some x ∧ d = .tup [.int i, x] := by
  simp only [enumL, List.getElem?_map, List.getElem?_zipIdx, Option.map_map] at h
  cases e : xs[i]? with
  | none => rw [e] at h; cases h
  | some x => rw [e] at h; simp at h; exact ⟨x, rfl, h.symm⟩
theorem enum_len (xs : List D) : (enumL xs).length = xs.length := by simp [enumL]
theorem rng_at {n i : Nat} {d : D} (h : (rngD 0 n)[i]? = some d) : i < n ∧ d = .int i := by
  unfold rngD at h
  rw [List.getElem?_map] at h
  by_cases hi : i < n
  · rw [List.getElem?_range hi] at h
    simp at h
    exact ⟨hi, h.symm⟩
  · rw [List.getElem?_eq_none (by simp; omega)] at h; cases h
theorem getD_of {xs : List D} {i : Nat} {x : D} (h : xs[i]? = some x) : xs.getD i .non = x := by simp [List.getD, h]
theorem val_tupO {mA : DA} {ρ : Slots} {O : Ow} {d : D} {rs : List D} (hd : Seq d rs) (h : ∀ Q E, Q [d] O → mA ρ O Q E) : ∀ Q E, Q (.tup rs) O → dCB tupO mA ρ O Q E := fun Q E q => h _ _ (by
  rcases hd with rfl | rfl <;> exact q)
theorem st_fld {C : Addr} {f : Str} {mo m : DE} {rest : DS} {A : DEnds} {ρ : Slots} {O : Ow} (p : Addr) (d : D) (fs : List (Str × D)) (h : ∀ Q E, Q d O → m ρ O Q E) (ho : ∀ Q E, Q (.opq (.ref p)) O → mo ρ O Q E) (e : O p = some (.ins C fs)) (hl : fs.length < 1000) (k : rest A ρ (oset O p (.ins C (putD f d fs)))) : dSeq (dSetF C f mo m) rest A ρ O := h _ _ (ho _ _ ⟨fs, e, hl, k⟩)
theorem st_fld1 {C : Addr} {f : Str} {mo m : DE} {A : DEnds} {ρ : Slots} {O : Ow} (p : Addr) (d : D) (fs : List (Str × D)) (h : ∀ Q E, Q d O → m ρ O Q E) (ho : ∀ Q E, Q (.opq (.ref p)) O → mo ρ O Q E) (e : O p = some (.ins C fs)) (hl : fs.length < 1000) (k : A.nx ρ (oset O p (.ins C (putD f d fs)))) : dSetF C f mo m A ρ O := h _ _ (ho _ _ ⟨fs, e, hl, k⟩)
section
variable {P : Program} {w : World} {K : PySem.W.Frag} {mg : Str → Option Value} {base : Heap}
theorem ok_Reader_init {f fN fR C : Addr} {fd fdN fdR : FuncData} {AA : Str → Addr} (F : Fun K "__init__" "Reader.__init__" s_Reader_init f fd)
    (G_is_number : FnOk P w K mg base CX0 1 fN fdN ["value", "least", "most"] (spD K numS)) (T_is_number : Gf K mg "is_number" fN fdN ["value", "least", "most"])
    (G_check_rows : FnOk P w K mg base (L2.CX P w) 3 fR fdR ["cells", "rows"] (spD K (rowsS (AA "InvalidStep")))) (T_check_rows : Gf K mg "check_rows" fR fdR ["cells", "rows"])
    (m_len : mg "len" = none) (m_enumerate : mg "enumerate" = none) (m_range : mg "range" = none) (m_tuple : mg "tuple" = none) {t1 t2 t3 : Tok} (M_MOST_CELLS : mg "MOST_CELLS" = some (.int 300 t1)) (M_MOST_ROWS : mg "MOST_ROWS" = some (.int 10000 t2)) (M_MOST_RANGE : mg "MOST_RANGE" = some (.int 10000 t3))
    (E_TooMany : Err P w K mg base 2 (AA "TooMany") "TooMany" ["most"]) (M_TooMany : mg "TooMany" = some (.ref (AA "TooMany")))
    (E_InvalidCell : Err P w K mg base 2 (AA "InvalidCell") "InvalidCell" ["at"]) (M_InvalidCell : mg "InvalidCell" = some (.ref (AA "InvalidCell")))
    (E_InvalidNumber : Err P w K mg base 2 (AA "InvalidNumber") "InvalidNumber" ["given"]) (M_InvalidNumber : mg "InvalidNumber" = some (.ref (AA "InvalidNumber")))
    (CL_Reader : Cls K C) (NA_Reader_cells : NoAttr K C "cells") (NA_Reader_rows : NoAttr K C "rows") (NA_Reader_inputs : NoAttr K C "inputs") :
    FnOk P w K mg base (L2.CX P w) 4 f fd ["self", "cells", "rows", "inputs"] (spD K (iniS AA C)) := by
  refine fn_excF F sc_Reader_init (fun ds O Q E h => ?_) (fun cdv A outer s H E hr tk =>
    (d_scons (d_ifS (d_tcmp od_gt (d_callB cd_len rfl m_len boot_len (d_cons (d_var (i := 1) rfl (.inl rfl) (by decide) (by decide)) d_nil rfl) (by decide) (by decide) rfl rfl) (d_globI rfl M_MOST_CELLS (by decide)) (nomark _)) (d_sone (d_raise rfl tk E_TooMany (hr.mono (by decide)) rfl M_TooMany (d_cons (d_globI rfl M_MOST_CELLS (by decide)) d_nil rfl) (by decide) rfl rfl)) d_snil)
      (d_scons (d_for (passes_of rfl) rfl (d_enum rfl m_enumerate (d_cons (d_var (i := 1) rfl (.inl rfl) (by decide) (by decide)) d_nil rfl) rfl) (dg_tup (n := 2) rfl (dgs_cons (dg_name (i := 4) sc_Reader_init.nd rfl (.inl rfl) (.inl rfl)) (dgs_cons (dg_name (i := 5) sc_Reader_init.nd rfl (.inl rfl) (.inl rfl)) dgs_nil rfl) rfl) rfl rfl) (d_sone (d_ifS (d_tnot (d_test (d_call G_is_number (hr.mono (by decide)) rfl T_is_number.m T_is_number.k T_is_number.b (fun _ => pass0A) (d_cons (d_var (i := 5) rfl (.inl rfl) (by decide) (by decide)) (d_cons d_int (d_cons (d_globI rfl M_MOST_RANGE (by decide)) d_nil rfl) rfl) rfl) (by decide) rfl rfl) (by intro _; rfl))) (d_sone (d_raise rfl tk E_InvalidCell (hr.mono (by decide)) rfl M_InvalidCell (d_cons (d_var (i := 4) rfl (.inl rfl) (by decide) (by decide)) d_nil rfl) (by decide) rfl rfl)) d_snil)) (fun _ => rfl))
      (d_scons (d_ifS (d_tnot (d_test (d_call G_is_number (hr.mono (by decide)) rfl T_is_number.m T_is_number.k T_is_number.b (fun _ => pass0A) (d_cons (d_var (i := 3) rfl (.inl rfl) (by decide) (by decide)) (d_cons d_int (d_cons (d_callB cd_len rfl m_len boot_len (d_cons (d_var (i := 1) rfl (.inl rfl) (by decide) (by decide)) d_nil rfl) (by decide) (by decide) rfl rfl) d_nil rfl) rfl) rfl) (by decide) rfl rfl) (by intro _; rfl))) (d_sone (d_raise rfl tk E_InvalidNumber (hr.mono (by decide)) rfl M_InvalidNumber (d_cons (d_var (i := 3) rfl (.inl rfl) (by decide) (by decide)) d_nil rfl) (by decide) rfl rfl)) d_snil)
      (d_scons (d_for (passes_of rfl) rfl (d_rng1 rfl m_range (d_cons (d_var (i := 3) rfl (.inl rfl) (by decide) (by decide)) d_nil rfl) rfl) (dg_name (i := 4) sc_Reader_init.nd rfl (.inl rfl) (.inl rfl)) (d_sone (d_ifS (d_tcmp (od_ne hr.units) (d_ix (d_var (i := 1) rfl (.inl rfl) (by decide) (by decide)) (d_var (i := 4) rfl (.inl rfl) (by decide) (by decide)) (fun _ _ => rfl)) d_int (nomark _)) (d_sone (d_raise rfl tk E_InvalidCell (hr.mono (by decide)) rfl M_InvalidCell (d_cons (d_var (i := 4) rfl (.inl rfl) (by decide) (by decide)) d_nil rfl) (by decide) rfl rfl)) d_snil)) (fun _ => rfl))
      (d_scons (d_ifS (d_tcmp od_gt (d_callB cd_len rfl m_len boot_len (d_cons (d_var (i := 2) rfl (.inl rfl) (by decide) (by decide)) d_nil rfl) (by decide) (by decide) rfl rfl) (d_globI rfl M_MOST_ROWS (by decide)) (nomark _)) (d_sone (d_raise rfl tk E_TooMany (hr.mono (by decide)) rfl M_TooMany (d_cons (d_globI rfl M_MOST_ROWS (by decide)) d_nil rfl) (by decide) rfl rfl)) d_snil)
      (d_scons (d_expr (d_call G_check_rows (hr.mono (by decide)) rfl T_check_rows.m T_check_rows.k T_check_rows.b (fun σ => tk_pass tk σ) (d_cons (d_callB cd_len rfl m_len boot_len (d_cons (d_var (i := 1) rfl (.inl rfl) (by decide) (by decide)) d_nil rfl) (by decide) (by decide) rfl rfl) (d_cons (d_var (i := 2) rfl (.inl rfl) (by decide) (by decide)) d_nil rfl) rfl) (by decide) rfl rfl) rfl)
      (d_scons (d_setF CL_Reader NA_Reader_cells (d_var (i := 0) rfl (.inl rfl) (by decide) (by decide)) (d_callTy cd_tuple rfl m_tuple boot_tuple (d_cons (d_var (i := 1) rfl (.inl rfl) (by decide) (by decide)) d_nil rfl) (by decide) (by decide) rfl rfl) rfl)
      (d_scons (d_setF CL_Reader NA_Reader_rows (d_var (i := 0) rfl (.inl rfl) (by decide) (by decide)) (d_callTy cd_tuple rfl m_tuple boot_tuple (d_cons (d_var (i := 2) rfl (.inl rfl) (by decide) (by decide)) d_nil rfl) (by decide) (by decide) rfl rfl) rfl)
      (d_sone (d_setF CL_Reader NA_Reader_inputs (d_var (i := 0) rfl (.inl rfl) (by decide) (by decide)) (d_var (i := 3) rfl (.inl rfl) (by decide) (by decide)) rfl))))))))))) (fun ds O Q E h => ?_)
  · obtain ⟨p, dc, dr, inp, cs, rs, rfl, _⟩ := h; rfl
  · obtain ⟨p, dc, dr, inp, cs, rs, rfl, ep, hc, hr, lc, lr, tc, ti, tr, q, qx⟩ := h
    rw [show startD N_Reader_init [.opq (.ref p), dc, dr, inp] = [.sh (.opq (.ref p)), .sh dc, .sh dr, .sh inp, .un, .un] from rfl]
    have R0 : rdX AA cs rs inp = rdX AA cs rs inp := rfl
    conv at R0 => rhs; unfold rdX
    refine st_if (decide ((300 : Int) < (cs.length : Int))) ?_ ?_
    · exact val_tstB _ (val_op (.int cs.length) (.int 300) _ (val_len hc fun Q E q => q) (fun Q E q => q) (fun Q q => q))
    by_cases h1 : 300 < cs.length
    · rw [if_pos h1] at R0
      rw [decide_eq_true (by omega)]
      refine bcT (val_raise [.int 300] rfl ?_ ?_)
      · exact fun Q E q => q
      · exact ⟨O, OSub.refl O, qx _ R0⟩
    rw [if_neg h1] at R0
    rw [decide_eq_false (by omega)]
    refine bcN ?_
    dsimp only
    refine st_forJ (enumL cs) (fun i ρ => (∃ s4 s5, ρ = [.sh (.opq (.ref p)), .sh dc, .sh dr, .sh inp, s4, s5]) ∧ ∀ j, j < i → isNum (cs.getD j .non) 0 10000 = true) ?_ ⟨⟨_, _, rfl⟩, fun j h => by omega⟩ ?_ ?_
    · exact val_enum hc fun Q E q => q
    · rintro i d hd ρ ⟨⟨s4, s5, rfl⟩, hj⟩ N hN
      obtain ⟨x, ex, rfl⟩ := enum_at hd
      have hi : i < cs.length := (List.getElem?_eq_some_iff.mp ex).1
      refine tg_tup rfl (tg_pair [.sh (.opq (.ref p)), .sh dc, .sh dr, .sh inp, .sh (.int i), .sh x] rfl ?_)
      refine st_if1 (!isNum x 0 10000) ?_ ?_
      · exact val_not _ (val_tst _ (val_call [x, .int 0, .int 10000] _ (fun Q E q => q) (fun Q E q => ⟨x, 0, 10000, rfl, tc x (List.mem_of_getElem? ex), q⟩)))
      cases hn : isNum x 0 10000 with
      | false =>
        have : cellBad cs = some i := find_at hi (by rw [getD_of ex, hn]; rfl) fun j h => by rw [hj j h]; rfl
        rw [this] at R0
        refine bcT (val_raise [.int i] rfl ?_ ?_)
        · exact fun Q E q => q
        · exact ⟨O, OSub.refl O, qx _ R0⟩
      | true =>
        refine bcN ?_
        refine hN _ ⟨⟨_, _, rfl⟩, fun j h => ?_⟩
        by_cases e : j = i
        · subst e; rw [getD_of ex]; exact hn
        · exact hj j (by omega)
    rw [enum_len]
    rintro ρ ⟨⟨s4, s5, rfl⟩, hall⟩
    have hcb : cellBad cs = none := find_no fun j h => by rw [hall j h]; rfl
    rw [hcb] at R0
    dsimp only at R0
    refine st_if (!isNum inp 0 cs.length) ?_ ?_
    · exact val_not _ (val_tst _ (val_call [inp, .int 0, .int cs.length] _ (val_cons _ _ (fun Q E q => q) (val_cons _ _ (fun Q E q => q) (val_cons _ _ (val_len hc fun Q E q => q) val_nil))) (fun Q E q => ⟨inp, 0, cs.length, rfl, ti, q⟩)))
    cases hn : isNum inp 0 cs.length with
    | false =>
      rw [hn, if_pos rfl] at R0
      refine bcT (val_raise [inp] rfl ?_ ?_)
      · exact fun Q E q => q
      · exact ⟨O, OSub.refl O, qx _ R0⟩
    | true =>
      rw [hn, if_neg (by decide)] at R0
      refine bcN ?_
      dsimp only
      obtain ⟨n, rfl⟩ : ∃ n, inp = .int n := by
        unfold isNum at hn
        split at hn
        · exact ⟨_, rfl⟩
        · cases hn
      have hn0 : 0 ≤ n ∧ n ≤ cs.length := by simpa [isNum] using hn
      dsimp only at R0
      refine st_forJ (rngD 0 n.toNat) (fun i ρ => (∃ s4 s5, ρ = [.sh (.opq (.ref p)), .sh dc, .sh dr, .sh (.int n), s4, s5]) ∧ ∀ j, j < i → isZero (cs.getD j .non) = true) ?_ ⟨⟨_, _, rfl⟩, fun j h => by omega⟩ ?_ ?_
      · exact fun Q E q => ⟨by omega, by have : sizeLine < 2 ^ 62 := by decide
                                         omega, q⟩
      · rintro i d hd ρ ⟨⟨s4, s5, rfl⟩, hj⟩ N hN
        obtain ⟨hi, rfl⟩ := rng_at hd
        have hic : i < cs.length := by omega
        have ex : cs[i]? = some cs[i] := List.getElem?_eq_getElem hic
        refine tg_one [.sh (.opq (.ref p)), .sh dc, .sh dr, .sh (.int n), .sh (.int i), s5] rfl ?_
        have hx := hall i hic
        rw [getD_of ex] at hx
        obtain ⟨m, em⟩ : ∃ m, cs[i] = .int m := by
          unfold isNum at hx
          split at hx
          · rename_i e; exact ⟨_, e⟩
          · cases hx
        rw [em] at ex
        refine st_if1 (!decide (m = 0)) ?_ ?_
        · exact val_tstB _ (val_op (.int m) (.int 0) _ (val_ix hc (fun Q E q => q) (fun Q E q => q) (atI_nat ex)) (fun Q E q => q) (fun Q q => q))
        by_cases hm : m = 0
        · rw [decide_eq_true hm]
          refine bcN ?_
          refine hN _ ⟨⟨_, _, rfl⟩, fun j h => ?_⟩
          by_cases e : j = i
          · subst e; rw [getD_of ex]; simp [isZero, hm]
          · exact hj j (by omega)
        · rw [decide_eq_false hm]
          have : wideAt cs n.toNat = some i := find_at hi (by rw [getD_of ex]; simp [isZero, hm]) fun j h => by rw [hj j h]; rfl
          rw [this] at R0
          refine bcT (val_raise [.int i] rfl ?_ ?_)
          · exact fun Q E q => q
          · exact ⟨O, OSub.refl O, qx _ R0⟩
      rw [show (rngD 0 n.toNat).length = n.toNat by simp [rngD]]
      rintro ρ ⟨⟨s4, s5, rfl⟩, hzero⟩
      have hw : wideAt cs n.toNat = none := find_no fun j h => by rw [hzero j h]; rfl
      rw [hw] at R0
      dsimp only at R0
      refine st_if (decide ((10000 : Int) < (rs.length : Int))) ?_ ?_
      · exact val_tstB _ (val_op (.int rs.length) (.int 10000) _ (val_len hr fun Q E q => q) (fun Q E q => q) (fun Q q => q))
      by_cases h2 : 10000 < rs.length
      · rw [if_pos h2] at R0
        rw [decide_eq_true (by omega)]
        refine bcT (val_raise [.int 10000] rfl ?_ ?_)
        · exact fun Q E q => q
        · exact ⟨O, OSub.refl O, qx _ R0⟩
      rw [if_neg h2] at R0
      rw [decide_eq_false (by omega)]
      refine bcN ?_
      dsimp only
      refine val_len hc (fun Q E q => q) _ _ ?_
      refine spM.of ⟨cs.length, dr, rs, rfl, hr, lr, tr, fun hk => ?_, fun i hk => ?_⟩
      · rw [hk] at R0
        dsimp only
        refine st_fld p (.tup cs) [] ?_ ?_ ep (by decide) ?_
        · exact val_tupO hc fun Q E q => q
        · exact fun Q E q => q
        refine st_fld p (.tup rs) [("cells", .tup cs)] ?_ ?_ oset_same (Nat.lt_of_lt_of_le (show 1 < 2 by decide) (by decide)) ?_
        · exact val_tupO hr fun Q E q => q
        · exact fun Q E q => q
        rw [oset_oset]
        refine st_fld1 p (.int n) [("cells", .tup cs), ("rows", .tup rs)] ?_ ?_ oset_same (Nat.lt_of_lt_of_le (show 2 < 3 by decide) (by decide)) ?_
        · exact fun Q E q => q
        · exact fun Q E q => q
        rw [oset_oset]
        exact ⟨_, OSub.refl _, q R0⟩
      · rw [hk] at R0
        exact ⟨O, OSub.refl O, qx _ R0⟩
end
end LW
set_option Elab.async false
set_option linter.all false
set_option maxRecDepth 100000
set_option maxHeartbeats 4000000
namespace EV
open PySem PySem.Spec PyProof.Rows L2 LamX
section
variable {X : Cx} {L : Pl} {e : Expr} {es : List Expr} {mA : DA} {p pos : Pos}
/-- a def that is promised at this very place -/
theorem d_callP {CX : CXT} {k : Nat} {f : Addr} {fd : FuncData} {ps : List Str} {sp : DSp} {x : Str} (Fn : FnOk X.prog X.w X.K X.mg X.base CX k f fd ps (spL X.K L.B sp)) (hr : Room k X.A) (hg : Gl X x) (hm : X.mg x = some (.ref f)) (hk : PySem.W.keepIn X.K (.ref f) = true) (hb : Binds X.K fd ps [])
    (hx : ∀ σ, PassesAt CX X σ (L.W σ)) (ha : DPA X L (e :: es) mA) (hdb : (x == ("__debug__" : Str)) = false) (he : starEach (e :: es) X.env = (false, eval e X.env) :: starEach es X.env) (hpl : (backTo pos (starEach es X.env)).any (·.1) = false) :
    DPE X L (.Call (.Name x p) (e :: es) [] pos) (dCall sp mA) := by
  refine ⟨mo_call ha.mo, pe_imp (pe_callSD Fn hr hg hm hk hb .nil hx ha.run hdb he hpl) fun σ H Q ⟨G, O, ρ, g, rs, q⟩ => ?_⟩
  refine upA_of ha.mo g rs q fun xs vs O1 G1 H1 q1 s1 r1 => ?_
  exact ⟨G1, O1, xs, s1.good, by rw [List.append_nil]; exact r1, spM_mo (fun d _ z => z.step s1) (fun x _ z => z.step s1) q1⟩
end
section
variable {P : Program} {w : World} {K : PySem.W.Frag} {mg : Str → Option Value} {base : Heap}
/-- a def that raises nothing, at the place B -/
theorem fn_at {B : Bo} {x qual : Str} {st : Stmt} {f : Addr} {fd : FuncData} {N ps : List Str} {k : Nat} {sp : DSp} {ms : DS} (Fn : Fun K x qual st f fd) (S : FnScope N ps (defScope st)) (len : ∀ ds O Q E, sp ds O Q E → ds.length = ps.length)
    (hb : ∀ (cdv : Value) (A : Around) (outer : List Env) (s : Shared) (H : Hp) (E : XK), Room k (A.deeper (envOfC qual (defScope st) s.heap.objs.size f cdv)) →
      DPSs (cxOf CX0 P w K mg base N qual (defScope st) f cdv A outer s H E).nox ⟨B, fun _ _ _ _ => False⟩ (defBody st) ms)
    (h : ∀ ds O Q E, sp ds O Q E → ms (endsD Q E) (startD N ds) O) (noex : ∀ ds O Q E, sp ds O Q E → sp ds O Q fun _ _ => False) : FnOk P w K mg base CX0 (k + 1) f fd ps (spL K B sp) := by
  refine Fn.ok S (fun vs H Q E ⟨G, O, ds, g, r, Q0, E0, h0, _⟩ => ?_) (fun cdv A outer s H vs Q E hr ⟨G, O, ds, g, r, Q0, E0, h0, hq, hx⟩ => ?_)
  · rw [r.length]; exact len _ _ _ _ h0
  · have b := hb cdv A outer s H E hr
    refine ⟨_, b.run, G, O, startD N ds, g, start_rp r, b.mo (endsD Q0 fun _ _ => False) _ _ _ ⟨fun ρ O1 z σ' G' H' s _ => hq _ _ z _ G' H' s .non, fun d O1 z v G' H' s rv => hq _ _ z v G' H' s rv, fun _ _ z => z.elim, fun _ _ z => z.elim, fun x ρ _ z => z.elim⟩ (h ds O Q0 (fun _ _ => False) (noex _ _ _ _ h0))⟩
end
end EV
set_option Elab.async false
set_option linter.all false
set_option maxRecDepth 100000
set_option maxHeartbeats 4000000
namespace EV
open PySem PySem.Spec PyProof.Rows L2 LamX
section
variable {X : Cx} {L : Pl}
theorem lam_pass {A : Around} {outer : List Env} {s : Shared} {H : Hp} {E : XK} {scope : Scope} {f c' : Addr} : Passes (L2.CX X.prog X.w) (lamCx X A outer s H E scope f c') E := fun pins σ H' s1 e s' I c => passAt (W := fun cls d _ H => E cls d H) (takes_of (X := lamCx X A outer s H E scope f c') rfl rfl rfl rfl) σ pins H' s1 e s' I c
/-- one lambda -/
def lam1 (l : LamD) (m : DE) : LamD → DE → Prop := fun l' m' => l' = l ∧ m' = m
def lamOr (T U : LamD → DE → Prop) : LamD → DE → Prop := fun l m => T l m ∨ U l m
theorem lams_one {j : Nat} {params : Arguments} {body : Expr} {scope : Scope} {m : DE} (hr : Room (j + 1) X.A) (LW : LamW X.N X.env.scope scope)
    (hb : ∀ (A : Around) (outer : List Env) (s : Shared) (H : Hp) (E : XK) (f c' : Addr), Room j (A.deeper (lamEnv X scope s.heap.objs.size f c')) → DPE (lamCx X A outer s H E scope f c') ⟨L.B, fun _ => E⟩ body m) : LamsOf X L.B j (lam1 (lamOf X params body scope) m) := fun l m' ⟨e1, e2⟩ => by
  subst e1 e2
  exact ⟨params, body, scope, rfl, LW, (hb X.A X.stack X.s_0 X.H_0 (fun _ _ _ => True) 0 0 (hr.deeper (lamEnv X scope X.s_0.heap.objs.size 0 0))).mo, hb⟩
theorem lams_or {j : Nat} {T U : LamD → DE → Prop} (h1 : LamsOf X L.B j T) (h2 : LamsOf X L.B j U) : LamsOf X L.B j (lamOr T U) := fun l m h => h.elim (h1 l m) (h2 l m)
/-- f(lambda: body) -/
theorem d_callL1 {j k : Nat} {f : Addr} {fd : FuncData} {ps : List Str} {S : LR → DSp} {x : Str} {params : Arguments} {body : Expr} {scope : Scope} {m : DE} {p pos lpos : Pos} (Fn : FnL X.prog X.w X.K X.mg X.base (j + 1) k f fd ps S) (hj : Room (j + 1) X.A) (hfn : ∀ y, X.fn y = true) (hr : Room k X.A) (hg : Gl X x) (hm : X.mg x = some (.ref f)) (hk : PySem.W.keepIn X.K (.ref f) = true) (hb : Binds X.K fd ps [])
    (LA : LamAt X L) (LW : LamW X.N X.env.scope scope) (hdef : defaultsOf params X.env = ([], [])) (hbind : ∀ (q : Str) (cl : List (Str × Addr)) (doc pm cv ctv : Value), bindArgs (PySem.W.kdv_fn "<lambda>" q params (.expr body) scope cl .none doc pm cv ctv) ⟨[], []⟩ = pure [])
    (hbd : ∀ (A : Around) (outer : List Env) (s : Shared) (H : Hp) (E : XK) (f c' : Addr), Room j (A.deeper (lamEnv X scope s.heap.objs.size f c')) → DPE (lamCx X A outer s H E scope f c') ⟨L.B, fun _ => E⟩ body m)
    (hdb : (x == ("__debug__" : Str)) = false) (he : starEach [.Lambda params body scope lpos] X.env = (false, eval (.Lambda params body scope lpos) X.env) :: starEach [] X.env) (hpl : (backTo pos (starEach [] X.env)).any (·.1) = false) :
    DPE X L (.Call (.Name x p) [.Lambda params body scope lpos] [] pos) (dCallL S (lam1 (lamOf X params body scope) m) (dCons (dC (.lam (lamOf X params body scope))) dNil)) :=
  d_callL Fn (lams_one (L := L) hj LW hbd) hfn hr hg hm hk hb (d_cons (d_lam LA LW hdef hbind) d_nil he) hdb he hpl
theorem lam_at' {b l c PT : Addr} {q : Str} (hq : X.env.qual = q) (hB : L.B.bx = some (b, l, [(PT, q ++ "<lambda>")])) (TB : TabB X.base X.mg c PT) (hc : X.env.code = .ref c) : LamAt X L := by
  subst hq
  refine ⟨b, l, _, c, PT, hB, TB, hc, List.mem_cons_self, fun p hp _ => ?_⟩
  rcases List.mem_cons.mp hp with h | h
  · rw [h]
  · cases h
/-- the name of a lambda of the def q -/
abbrev lamQ (q : Str) : Str := (q ++ ".<locals>.") ++ "<lambda>"
theorem lam_at {P : Program} {w : World} {K : PySem.W.Frag} {mg : Str → Option Value} {base : Heap} {N : List Str} {sc : Scope} {q : Str} {f c : Addr} {A : Around} {outer : List Env} {s : Shared} {H : Hp} {E : XK} {b l PT : Addr} {W : L2.St → XK} (TB : TabB base mg c PT) : LamAt (cxOf CX0 P w K mg base N q sc f (.ref c) A outer s H E).nox ⟨boB b l [(PT, lamQ q)], W⟩ :=
  lam_at' (q := q ++ ".<locals>.") rfl rfl TB rfl
end
end EV
set_option Elab.async false
set_option linter.all false
set_option maxRecDepth 100000
set_option maxHeartbeats 4000000
set_option pp.maxSteps 400
namespace LW
open PySem PySem.Spec PyProof.Rows L2 EV PySem.XO PySem.W LamX
abbrev psR : List Str := ["self", "cells", "rows", "inputs"]
theorem GD_Reader_inputs : ∀ (K : PySem.W.Frag) (G : Hp) (v : V) (vs zs : List V) (ds es : List D), RpL K G vs ds → RpL K G zs es → vs.length = 2 → zs.length = (["inputs"] : List Str).length → ∃ ws, (v :: vs) ++ zs = v :: ws ∧ RpL K G ws (ds ++ es) := fun K G v vs zs ds es r1 r2 _ _ => ⟨vs ++ zs, rfl, r1.append r2⟩
/-- the lambdas of a list -/
def lamE : Expr → Nat → Arguments × Expr × Scope
  | .List es _, i => (match es[i]? with
    | some (.Lambda a b s _) => (a, b, s)
    | _ => default)
  | _, _ => default
theorem mkG_ini {AA : Str → Addr} {C : Addr} {O : Ow} {Q : QD} {E : QX} {dc dr inp : D} {cs rs : List D} (hc : Seq dc cs) (hr : Seq dr rs) (lc : cs.length ≤ sizeLine) (lr : rs.length < sizeLine) (tc : ∀ c ∈ cs, (tyD c).isSome = true) (ti : (tyD inp).isSome = true) (tr : ∀ r ∈ rs, Flat1 r)
    (q : rdX AA cs rs inp = none → Q (.ins C (rdF cs rs inp)) O) (e : ∀ x, rdX AA cs rs inp = some x → E x O) : mkG C (iniS AA C) [dc, dr, inp] O Q E := fun p np =>
  spM.of ⟨p, dc, dr, inp, cs, rs, rfl, oset_same, hc, hr, lc, lr, tc, ti, tr, fun h => ⟨rfl, _, _, oset_same, by rw [oset_oset, odel_oset np]; exact q h⟩, fun x h => ⟨O, OSub.new np, e x h⟩⟩
theorem flat_repx (x : D) : ∀ n : Nat, (List.replicate n [x]).flatten = List.replicate n x
  | 0 => rfl
  | n + 1 => by rw [List.replicate_succ, List.replicate_succ, List.flatten_cons, flat_repx x n]; rfl
theorem val_rep {mx mk : DE} {ρ : Slots} {O : Ow} (x : D) (k : Nat) (hx : ∀ Q E, Q (.lst [x]) O → mx ρ O Q E) (hk : ∀ Q E, Q (.int k) O → mk ρ O Q E) (hl : k ≤ 1000) : ∀ Q E, Q (.lst (List.replicate k x)) O → dOp (pu mulD) mx mk ρ O Q E := fun Q E q => hx _ _ (hk _ _ ⟨by omega, by omega, by
  have : 1000 ≤ sizeLine := by decide
  simp; omega, by rw [Int.toNat_natCast, flat_repx]; exact q⟩)
theorem val_pull {b : Addr} {mb mN : DE} {ρ : Slots} {O : Ow} (n : Int) (hb : ∀ Q E, Q (.opq (.ref b)) O → mb ρ O Q E) (hN : ∀ Q E, Q (.int n) O → mN ρ O Q E) (h0 : 0 < n) (h1 : n < 1073741824) : ∀ Q E, (∀ k, 0 ≤ k → k < n → Q (.int k) O) → dCallX b pullS (dCons mb (dCons mN dNil)) ρ O Q E := fun Q E q => hb _ _ (hN _ _ ⟨rfl, spM.of ⟨n, rfl, h0, h1, q⟩⟩)
theorem val_of {b : Addr} {mb md : DE} {ρ : Slots} {O : Ow} (d : D) (hb : ∀ Q E, Q (.opq (.ref b)) O → mb ρ O Q E) (hd : ∀ Q E, Q d O → md ρ O Q E) (h0 : 0 < (itemsL d).length) (h1 : (itemsL d).length < 1000000) : ∀ Q E, (∀ y ∈ itemsL d, Q y O) → dCallX b ofS (dCons mb (dCons md dNil)) ρ O Q E := fun Q E q => hb _ _ (hd _ _ ⟨rfl, spM.of ⟨d, rfl, h0, h1, q⟩⟩)
theorem each_mem {l : List D} : ∀ {ds ys : List D}, Each (fun _ y => y ∈ l) ds ys → ∀ y ∈ ys, y ∈ l
  | _, _, .nil, y, h => by cases h
  | _, _, .cons a r, y, h => by
    rcases List.mem_cons.mp h with rfl | h
    · exact a
    · exact each_mem r y h
theorem cells_ok {cs : List D} (hc : ∀ c ∈ cs, isNum c 0 10000 = true) : cellBad cs = none := find_no fun j hj => by
  rw [getD_of (List.getElem?_eq_getElem hj), hc _ (List.getElem_mem hj)]; rfl
end LW
set_option Elab.async false
set_option linter.all false
set_option maxRecDepth 100000
set_option maxHeartbeats 4000000
set_option pp.maxSteps 400
namespace LW
open PySem PySem.Spec PyProof.Rows L2 EV PySem.XO PySem.W LamX
abbrev s_words : Stmt := topS 35
abbrev N_words : List Str := ["_law_box_here", "_law_many", "_law_letters", "_law_stem", "_law_spot", "_law_first", "_law_k"]
theorem sc_words : FnScope N_words ["_law_box_here", "_law_many"] (defScope s_words) := ⟨rfl, rfl, rfl, by decide +kernel, rfl, by decide +kernel, by decide +kernel⟩
def wordsS : DSp := fun ds O Q _ => ∃ n : Nat, ds = [.int n] ∧ n ≤ 26 ∧ ∀ ws : List Str, ws.length = n → (∀ w ∈ ws, isNm (.str w) = true) → ws.Nodup → Q (.lst (ws.map D.str)) O
local macro_rules | `(tactic| walk_at "n") => `(tactic| refine st_norm (by simp only [List.set_cons_succ, List.set_cons_zero]; rfl) ?_)
theorem val_join {m : DE} {sep : Str} {ρ : Slots} {O : Ow} {Q : QD} {E : QX} (h : m ρ O (fun d O1 => joinD sep d fun r => Q r O1) E) : dM1 joinD (dC (.str sep)) m ρ O Q E := h
theorem getD_el {α : Type} {l : List α} {i : Nat} {d : α} (h : i < l.length) : l.getD i d = l[i] := by simp [List.getD, List.getElem?_eq_getElem h]
theorem st_asg2 {mA : DA} {i j : Nat} {rest : DS} {A : DEnds} {ρ : Slots} {O : Ow} (P : D → D → Prop) (h : ∀ Q E, (∀ u v, P u v → Q [u, v] O) → mA ρ O Q E) (k : ∀ u v, P u v → rest A ((ρ.set i (.sh u)).set j (.sh v)) O) : dSeq (dAsg (dTup mA) (dgTup 2 (dgCons (dgName i) (dgCons (dgName j) dgNil)))) rest A ρ O := h _ _ fun u v p => ⟨le_sz rfl, ⟨rfl, k u v p⟩⟩
theorem szk {n : Nat} (h : n ≤ 1000) : n ≤ sizeLine := Nat.le_trans h (by decide)
theorem val_rng {mA : DA} {ρ : Slots} {O : Ow} (n : Nat) (hn : n < 1000000) (h : ∀ Q E, Q [.int n] O → mA ρ O Q E) : ∀ Q E, Q (tt1, rngD 0 n) O → dRng1 mA ρ O Q E := fun Q E q => h _ _ ⟨by omega, by omega, q⟩
def wordD (stem : Str) (spot first : Int) : D → D
  | .int k => .str (cutS stem none (some spot) ++ ⟨#[((co lettersT).getD ((first + 7 * k) % 26).toNat 0)]⟩ ++ cutS stem (some spot) none)
  | _ => .non
theorem st_par3N {mA : DA} {i j l : Nat} {rest : DS} {A : DEnds} {ρ : Slots} {O : Ow} (P : D → D → D → Prop) (h : ∀ Q E, (∀ u v w, P u v w → Q [u, v, w] O) → mA ρ O Q E) (k : ∀ u v w, P u v w → rest A (((ρ.set i (.sh u)).set j (.sh v)).set l (.sh w)) O) : dSeq (dPar3 i j l mA) rest A ρ O := h _ _ k
theorem val_inB {ma mb : DE} {ρ : Slots} {O : Ow} (z : Str) (ss : List Str) (b : Bool) (ha : ∀ Q E, Q (.str z) O → ma ρ O Q E) (hb : ∀ Q E, Q (.tup (ss.map fun x => .str x)) O → mb ρ O Q E) (e : (ss.any fun y => decide (z = y)) = b) : ∀ Q E, Q (.bl b) O → dOp (pu (inSD id)) ma mb ρ O Q E := fun Q E q => ha _ _ (hb _ _ (by
  show (match toSs (ss.map fun x => .str x) with
    | some ss => Q (.bl (id (ss.any fun y => decide (z = y)))) O
    | none => False)
  rw [toSs_map (fun x => x)]
  show Q (.bl (id ((ss.map fun x => x).any fun y => decide (z = y)))) O
  rw [List.map_id', e]
  exact q))
theorem val_eqB {ma mb : DE} {ρ : Slots} {O : Ow} (z y : Str) (b : Bool) (ha : ∀ Q E, Q (.str z) O → ma ρ O Q E) (hb : ∀ Q E, Q (.str y) O → mb ρ O Q E) (e : decide (z = y) = b) : ∀ Q E, Q (.bl b) O → dOp (pu (eqD id)) ma mb ρ O Q E := fun Q E q => ha _ _ (hb _ _ (by
  show Q (.bl (decide (z = y))) O
  rw [e]; exact q))
theorem val_ret {m : DE} {A : DEnds} {ρ : Slots} {O : Ow} (d : D) (h : ∀ Q E, Q d O → m ρ O Q E) (q : A.rt d O) : dRet m A ρ O := h _ _ q
theorem val_retX {m : DE} {A : DEnds} {ρ : Slots} {O : Ow} (h : m ρ O A.rt fun x O1 => A.ex x ρ O1) : dRet m A ρ O := h
theorem val_if {t : DT} {ma mb : DE} {ρ : Slots} {O : Ow} (b : Bool) (h : ∀ Q E, Q b O → t ρ O Q E) {Q : QD} {E : QX} (k : bc b (ma ρ O Q E) (mb ρ O Q E)) : dIf t ma mb ρ O Q E := h _ _ k
theorem each_P {P : D → Prop} : ∀ {ds ys : List D}, Each (fun _ y => P y) ds ys → ∀ y ∈ ys, P y
  | _, _, .nil, y, h => by cases h
  | _, _, .cons a r, y, h => by
    rcases List.mem_cons.mp h with rfl | h
    · exact a
    · exact each_P r y h
theorem val_ofN {b : Addr} {mb md : DE} {ρ : Slots} {O : Ow} {P : D → Prop} (hb : ∀ Q E, Q (.opq (.ref b)) O → mb ρ O Q E) (hd : ∀ Q E, (∀ d, P d → Q d O) → md ρ O Q E) (h0 : ∀ d, P d → 0 < (itemsL d).length ∧ (itemsL d).length < 1000000) : ∀ Q E, (∀ d, P d → ∀ y ∈ itemsL d, Q y O) → dCallX b ofS (dCons mb (dCons md dNil)) ρ O Q E := fun Q E q => hb _ _ (hd _ _ fun d hP => ⟨rfl, spM.of ⟨d, rfl, (h0 d hP).1, (h0 d hP).2, q d hP⟩⟩)
theorem vN_tup3 {m1 m2 m3 : DE} {ρ : Slots} {O : Ow} {Q : QD} {E : QX} (a c : D) {P : D → Prop} (h1 : ∀ Q E, Q a O → m1 ρ O Q E) (h2 : ∀ Q E, (∀ d, P d → Q d O) → m2 ρ O Q E) (h3 : ∀ Q E, Q c O → m3 ρ O Q E) (q : ∀ d, P d → Q (.tup [a, d, c]) O) : dTup (dCons m1 (dCons m2 (dCons m3 dNil))) ρ O Q E := h1 _ _ (h2 _ _ fun d p => h3 _ _ ⟨le_sz rfl, q d p⟩)
theorem vN_app1 {m1 m2 : DE} {ρ : Slots} {O : Ow} (xs : List D) {P : D → Prop} (h1 : ∀ Q E, Q (.lst xs) O → m1 ρ O Q E) (h2 : ∀ Q E, (∀ d, P d → Q d O) → m2 ρ O Q E) (hl : xs.length + 1 ≤ sizeLine) : ∀ Q E, (∀ d, P d → Q (.lst (xs ++ [d])) O) → dOp (pu addD) m1 (dLst (dCons m2 dNil)) ρ O Q E := fun Q E q => h1 _ _ (h2 _ _ fun d p => ⟨le_sz rfl, ⟨hl, q d p⟩⟩)
def lettN (i : Int) : Nat := (co lettersT).getD (i % 26).toNat 0
theorem lett_at (i : Int) : atI (co lettersT) (i % 26) = some (lettN i) := by
  have h0 : 0 ≤ i % 26 := Int.emod_nonneg _ (by decide)
  have h1 : i % 26 < 26 := Int.emod_lt_of_pos _ (by decide)
  have e : (((i % 26).toNat : Nat) : Int) = i % 26 := by omega
  have hk : (i % 26).toNat < (co lettersT).length := by
    have : (co lettersT).length = 26 := by decide +kernel
    omega
  rw [← e, atI_nat (List.getElem?_eq_getElem hk)]
  unfold lettN
  rw [getD_el hk]
theorem lett_val : ∀ k, k < 26 → (co lettersT).getD k 0 = 97 + k := by decide +kernel
theorem lettN_eq (i : Int) : lettN i = 97 + (i % 26).toNat := lett_val _ (by have := Int.emod_nonneg i (show (26 : Int) ≠ 0 by decide); have := Int.emod_lt_of_pos i (show (0 : Int) < 26 by decide); omega)
theorem lettN_mem (i : Int) : lettN i ∈ co lettersT := by
  have h0 : 0 ≤ i % 26 := Int.emod_nonneg _ (by decide)
  have h1 : i % 26 < 26 := Int.emod_lt_of_pos _ (by decide)
  have hk : (i % 26).toNat < (co lettersT).length := by
    have : (co lettersT).length = 26 := by decide +kernel
    omega
  unfold lettN
  rw [getD_el hk]
  exact List.getElem_mem hk
def wordT (stem : Str) (spot first : Int) (k : Int) : Str := cutS stem none (some spot) ++ ⟨#[lettN (first + 7 * k)]⟩ ++ cutS stem (some spot) none
theorem wordT_co {stem : Str} {spot first k : Int} (h0 : 0 ≤ spot) (h1 : spot ≤ stem.length) : co (wordT stem spot first k) = (co stem).take spot.toNat ++ [lettN (first + 7 * k)] ++ (co stem).drop spot.toNat := by
  unfold wordT
  rw [co_app, co_app, cut_to _ h0 h1, cut_from _ h0 h1]
  rfl
theorem wordT_nm {stem : Str} {spot first k : Int} (h0 : 0 ≤ spot) (h1 : spot ≤ stem.length) (hs : stem.length ≤ 5) (hc : ∀ c ∈ co stem, c ∈ co lettersT) : isNm (.str (wordT stem spot first k)) = true := by
  have e := wordT_co (first := first) (k := k) h0 h1
  have el : (wordT stem spot first k).length = stem.length + 1 := by
    rw [← co_len, e, ← co_len]
    simp only [List.length_append, List.length_take, List.length_drop, List.length_cons, List.length_nil]
    rw [co_len]; omega
  show (decide (1 ≤ (wordT stem spot first k).length) && decide ((wordT stem spot first k).length ≤ 6) && (co (wordT stem spot first k)).all fun c => decide (c ∈ co lettersT)) = true
  rw [el, e]
  simp only [Bool.and_eq_true, decide_eq_true_eq, List.all_eq_true]
  refine ⟨⟨by omega, by omega⟩, fun c h => ?_⟩
  simp only [List.mem_append, List.mem_cons, List.not_mem_nil, or_false] at h
  rcases h with (h | h) | h
  · exact hc c (List.mem_of_mem_take h)
  · rw [h]; exact lettN_mem _
  · exact hc c (List.mem_of_mem_drop h)
theorem wordT_inj {stem : Str} {spot first k k' : Int} (h0 : 0 ≤ spot) (h1 : spot ≤ stem.length) (a0 : 0 ≤ k) (a1 : k < 26) (b0 : 0 ≤ k') (b1 : k' < 26) (h : wordT stem spot first k = wordT stem spot first k') : k = k' := by
  have e := congrArg co h
  rw [wordT_co h0 h1, wordT_co h0 h1, List.append_assoc, List.append_assoc] at e
  have e2 := List.append_cancel_left e
  have e3 : lettN (first + 7 * k) = lettN (first + 7 * k') := by
    have := List.cons.inj e2
    exact this.1
  rw [lettN_eq, lettN_eq] at e3
  omega
theorem each_letters : ∀ {ds ys : List D}, Each (fun _ y => ∃ c ∈ co lettersT, y = .str ⟨#[c]⟩) ds ys → ∃ cs : List Nat, ys = cs.map (fun c => D.str ⟨#[c]⟩) ∧ ∀ c ∈ cs, c ∈ co lettersT
  | _, _, .nil => ⟨[], rfl, fun _ h => by cases h⟩
  | _, _, .cons ⟨c, mc, e⟩ r => by
    obtain ⟨cs, e1, h1⟩ := each_letters r
    refine ⟨c :: cs, by rw [e, e1]; rfl, fun x hx => ?_⟩
    rcases List.mem_cons.mp hx with q | q
    · rw [q]; exact mc
    · exact h1 x q
theorem sum_ones : ∀ cs : List Nat, (cs.map fun _ => 1).sum = cs.length
  | [] => rfl
  | _ :: cs => by simp only [List.map_cons, List.sum_cons, sum_ones cs, List.length_cons]; omega
theorem join_letters {cs : List Nat} (h : cs.length ≤ 1000) {Q : D → Prop} (q : ∀ y : Str, co y = cs → Q (.str y)) : joinD Str.empty (.lst (cs.map fun c => D.str ⟨#[c]⟩)) Q := by
  show joinOn _ _ _
  unfold joinOn
  rw [toSs_map]
  refine ⟨?_, q _ (join_sing cs)⟩
  have e1 : ((cs.map fun c => (⟨#[c]⟩ : Str)).map (·.length)).sum = cs.length := by
    rw [List.map_map]
    exact sum_ones cs
  rw [e1]
  have : (Str.empty).length = 0 := rfl
  rw [this]
  omega
abbrev s_step : Stmt := topS 40
abbrev N_step : List Str := ["_law_box_here", "_law_cells", "_law_words_here", "_law_many", "_law_c", "_law_d", "_law_j", "_law_kind"]
theorem sc_step : FnScope N_step ["_law_box_here", "_law_cells", "_law_words_here", "_law_many"] (defScope s_step) := ⟨rfl, rfl, rfl, by decide +kernel, rfl, by decide +kernel, by decide +kernel⟩
def stpL (a b j : Int) (w0 w1 : Str) : List D := [.tup [.str "read", .int a], .tup [.str "zero", .int a], .tup [.str "top", .int a], .tup [.str "up", .int a], .tup [.str "same", .int a, .int b, .int j], .tup [.str "less", .int a, .int b, .int j],
  .tup [.str "copy", .int a, .int b], .tup [.str "has", .str w1, .int a, .int j], .tup [.str "link", .str w0, .int a, .int b, .int j], .tup [.str "jump", .int j], .tup [.str "end"], .tup [.str "refuse"]]
def Stp (c m : Int) (w0 w1 : Str) (d : D) : Prop := ∃ a b j : Int, 0 ≤ a ∧ a < c ∧ 0 ≤ b ∧ b < c ∧ 0 ≤ j ∧ j < m ∧ d ∈ stpL a b j w0 w1
def kindL : List Str := ["read", "read", "read", "same", "same", "less", "has", "link", "zero", "top", "up", "up", "copy", "jump", "end", "refuse"]
def kA : List Str := ["read", "zero", "top", "up"]
def kB : List Str := ["same", "less"]
theorem kind_last : ∀ z ∈ kindL, (kA.any fun y => decide (z = y)) = false → (kB.any fun y => decide (z = y)) = false → decide (z = "copy") = false → decide (z = "has") = false → decide (z = "link") = false → decide (z = "jump") = false → z = "end" ∨ z = "refuse" := by decide +kernel
theorem any_mem {l : List Str} {z : Str} (h : (l.any fun y => decide (z = y)) = true) : z ∈ l := by
  obtain ⟨y, hy, e⟩ := List.any_eq_true.mp h
  rw [of_decide_eq_true e]; exact hy
def stpS : DSp := fun ds O Q _ => ∃ (c m : Int) (w0 w1 : Str) (ws : List Str), ds = [.int c, .lst ((w0 :: w1 :: ws).map D.str), .int m] ∧ 0 < c ∧ c < 1000000 ∧ 0 < m ∧ m < 1000000 ∧ ∀ d, Stp c m w0 w1 d → Q d O
abbrev s_plan : Stmt := topS 41
abbrev N_plan : List Str := ["_law_box_here", "_law_words_here", "_law_cap", "_law_inputs", "_law_cells", "_law_many", "_law_rows", "_law_k"]
theorem sc_plan : FnScope N_plan ["_law_box_here", "_law_words_here", "_law_cap"] (defScope s_plan) := ⟨rfl, rfl, rfl, by decide +kernel, rfl, by decide +kernel, by decide +kernel⟩
def cutL : List D := [.int 0, .int 2, .int 3, .int 1]
structure Plan (cap : Nat) (w0 w1 : Str) (cs rs : List D) (i : Nat) : Prop where
  i1 : i ≤ 1
  hcs : ∃ xs : List D, cs = List.replicate i (.int 0) ++ xs ∧ 1 ≤ xs.length ∧ xs.length ≤ 2 ∧ ∀ x ∈ xs, x ∈ cutL
  hrs : ∃ (ys : List D) (z : D), rs = ys ++ [z] ∧ ys.length < cap ∧ (∀ y ∈ ys, Stp cs.length rs.length w0 w1 y) ∧ (z = .tup [.str "end"] ∨ z = .tup [.str "refuse"] ∨ ∃ j : Int, 0 ≤ j ∧ j < rs.length ∧ z = .tup [.str "jump", .int j])
def planS : DSp := fun ds O Q _ => ∃ (cap : Nat) (w0 w1 : Str) (ws : List Str), ds = [.lst ((w0 :: w1 :: ws).map D.str), .int cap] ∧ 1 ≤ cap ∧ cap ≤ 1000 ∧ ∀ cs rs i, Plan cap w0 w1 cs rs i → Q (.tup [.lst cs, .lst rs, .int (i : Nat)]) O
section
variable {P : Program} {w : World} {K : PySem.W.Frag} {mg : Str → Option Value} {base : Heap}
theorem ok_words {f fP fO : Addr} {fd fdP fdO : FuncData} (F : Fun K "_law_words" "_law_words" s_words f fd) (G_pull : FnOk P w K mg base CX0 1 fP fdP ["_law_box_here", "_law_many"] (spB K pullS)) (T_pull : Gf K mg "_law_pull" fP fdP ["_law_box_here", "_law_many"])
    (G_of : FnOk P w K mg base CX0 2 fO fdO ["_law_box_here", "_law_some"] (spB K ofS)) (T_of : Gf K mg "_law_of" fO fdO ["_law_box_here", "_law_some"]) (m_len : mg "len" = none) (m_int : mg "int" = none) (m_range : mg "range" = none) :
    FnOk P w K mg base CX0 3 f fd ["_law_box_here", "_law_many"] (spB K wordsS) := by
  refine fn_box F sc_words (fun ds O Q E h => ?_) (fun cdv A outer s H E b l T hr =>
    (d_scons (d_set (i := 2) sc_words.nd rfl (.inr rfl) d_str rfl (.inl rfl))
      (d_scons (d_set (i := 3) sc_words.nd rfl (.inr rfl) (d_join d_str (d_lc rfl sc_words.nd (d_rng1 rfl m_range (d_cons (d_callX G_of rfl (hr.mono (by decide)) rfl T_of.m T_of.k T_of.b (fun _ => pass0A) (d_cons (d_var (i := 0) rfl (.inr (.inl rfl)) (by decide) (by decide)) (d_cons (d_lst (d_cons d_int (d_cons d_int (d_cons d_int (d_cons d_int (d_cons d_int d_nil rfl) rfl) rfl) rfl) rfl)) d_nil rfl) rfl) (by decide) rfl rfl) d_nil rfl) rfl) (blkOk_by (own := [("_law_k", 6)]) (N := N_words) (sc := defScope s_words) (by decide +kernel)) (fun _ _ _ _ _ => (dg_name (i := 6) sc_words.nd rfl (.inl rfl) (.inr rfl))) (fun _ _ _ _ _ => d_ifs0) (fun _ _ _ _ _ => (d_callX G_of rfl (hr.mono (by decide)) rfl T_of.m T_of.k T_of.b (fun _ => pass0A) (d_cons (d_var (i := 0) rfl (.inr (.inl rfl)) (by decide) (by decide)) (d_cons (d_var (i := 2) rfl (.inr (.inl rfl)) (by decide) (by decide)) d_nil rfl) rfl) (by decide) rfl rfl)) (by decide +kernel) (fun _ => rfl)) rfl rfl rfl) rfl (.inl rfl))
      (d_scons (d_asg (d_tup (d_cons (d_callX G_pull rfl (hr.mono (by decide)) rfl T_pull.m T_pull.k T_pull.b (fun _ => pass0A) (d_cons (d_var (i := 0) rfl (.inr (.inl rfl)) (by decide) (by decide)) (d_cons (d_op od_add (d_callB cd_len rfl m_len boot_len (d_cons (d_var (i := 3) rfl (.inr (.inl rfl)) (by decide) (by decide)) d_nil rfl) (by decide) (by decide) rfl rfl) d_int) d_nil rfl) rfl) (by decide) rfl rfl) (d_cons (d_callX G_pull rfl (hr.mono (by decide)) rfl T_pull.m T_pull.k T_pull.b (fun _ => pass0A) (d_cons (d_var (i := 0) rfl (.inr (.inl rfl)) (by decide) (by decide)) (d_cons d_int d_nil rfl) rfl) (by decide) rfl rfl) d_nil rfl) rfl)) (dg_tup (n := 2) rfl (dgs_cons (dg_name (i := 4) sc_words.nd rfl (.inr rfl) (.inl rfl)) (dgs_cons (dg_name (i := 5) sc_words.nd rfl (.inr rfl) (.inl rfl)) dgs_nil rfl) rfl) rfl rfl) rfl rfl rfl)
      (d_sone (d_ret (d_lc rfl sc_words.nd (d_rng1 rfl m_range (d_cons (d_var (i := 1) rfl (.inl rfl) (by decide) (by decide)) d_nil rfl) rfl) (blkOk_by (own := [("_law_k", 6)]) (N := N_words) (sc := defScope s_words) (by decide +kernel)) (fun _ _ _ _ _ => (dg_name (i := 6) sc_words.nd rfl (.inl rfl) (.inr rfl))) (fun _ _ _ _ _ => d_ifs0) (fun _ _ _ _ _ => (d_op od_add (d_op od_add (d_sl (d_var (i := 3) rfl (.inr (.inl rfl)) (by decide) (by decide)) d_nopart (d_part (d_var (i := 4) rfl (.inr (.inl rfl)) (by decide) (by decide)))) (d_ix (d_var (i := 2) rfl (.inr (.inl rfl)) (by decide) (by decide)) (d_op od_mod (d_callTy cd_int rfl m_int boot_int (d_cons (d_op od_add (d_var (i := 5) rfl (.inr (.inl rfl)) (by decide) (by decide)) (d_op od_mul d_int (d_var (i := 6) rfl (.inl rfl) (by decide) (by decide)))) d_nil rfl) (by decide) (by decide) rfl rfl) d_int) (fun _ _ => rfl))) (d_sl (d_var (i := 3) rfl (.inr (.inl rfl)) (by decide) (by decide)) (d_part (d_var (i := 4) rfl (.inr (.inl rfl)) (by decide) (by decide))) d_nopart))) (by decide +kernel) (fun _ => rfl)))))))) (fun b ds O Q E h => ?_) (fun ds O Q E h => h)
  · obtain ⟨n, rfl, _⟩ := h; rfl
  · obtain ⟨n, rfl, hn, q⟩ := h
    rw [show startD N_words [.opq (.ref b), .int n] = [.sh (.opq (.ref b)), .sh (.int n), .un, .un, .un, .un, .un] from rfl]
    refine st_set (.str lettersT) (fun Q E q => q) ?_
    rintro _ rfl
    walk_at "n"
    refine st_setN (fun d => ∃ y : Str, d = .str y ∧ y.length ≤ 5 ∧ ∀ c ∈ co y, c ∈ co lettersT) (fun Q E q => ?_) ?_
    · refine val_join ?_
      refine val_of (.lst [.int 0, .int 0, .int 1, .int 2, .int 5]) (fun Q E q => q) (fun Q E q => ⟨le_sz rfl, q⟩) (by decide) (by decide) _ _ fun y hy => ?_
      obtain ⟨k, rfl, hk⟩ : ∃ k : Nat, y = .int k ∧ k ≤ 5 := by
        simp only [itemsL, List.mem_cons, List.not_mem_nil, or_false] at hy
        rcases hy with rfl | rfl | rfl | rfl | rfl
        · exact ⟨0, rfl, by decide⟩
        · exact ⟨0, rfl, by decide⟩
        · exact ⟨1, rfl, by decide⟩
        · exact ⟨2, rfl, by decide⟩
        · exact ⟨5, rfl, by decide⟩
      refine ⟨by omega, by omega, ?_⟩
      refine lcW_each trivial (fun _ y => ∃ c ∈ co lettersT, y = .str ⟨#[c]⟩) (fun d hd Qy hq => ?_) (by simp [rngD]; have : 6 ≤ sizeLine := by decide
                                                                                                         omega) (fun ys hE => ?_)
      · refine val_of (.str lettersT) (fun Q E q => q) (fun Q E q => q) (by decide +kernel) (by decide +kernel) _ _ fun y hy => ?_
        obtain ⟨c, hc, rfl⟩ := List.mem_map.mp hy
        exact hq _ ⟨c, hc, rfl⟩
      · obtain ⟨cs, rfl, hcs⟩ := each_letters hE
        have hl := hE.length
        simp [rngD] at hl
        exact join_letters (by omega) fun y ey => q _ ⟨y, rfl, by rw [← co_len, ey]; omega, by rw [ey]; exact hcs⟩
    · rintro _ ⟨stem, rfl, hs5, hsc⟩
      walk_at "n"
      refine st_asg2 (fun u v => ∃ sp fi : Int, u = .int sp ∧ v = .int fi ∧ 0 ≤ sp ∧ sp ≤ stem.length) (fun Q E q => ?_) ?_
      · refine val_pull ((stem.length : Int) + 1) (fun Q E q => q) ?_ (by omega) (by omega) _ _ fun k k0 k1 => ?_
        · exact fun Q E q => ⟨szk (by omega), q⟩
        refine val_pull 26 (fun Q E q => q) (fun Q E q => q) (by decide) (by decide) _ _ fun k2 _ _ => q _ _ ⟨k, k2, rfl, rfl, k0, by omega⟩
      · rintro _ _ ⟨sp, fi, rfl, rfl, sp0, sp1⟩
        walk_at "n"
        have key : ∀ k : Nat, (cutS stem none (some sp)).length + 1 + (cutS stem (some sp) none).length ≤ 6 := fun _ => by
          rw [← co_len, ← co_len, cut_to _ sp0 sp1, cut_from _ sp0 sp1]
          simp only [List.length_take, List.length_drop, co_len]
          omega
        refine val_rng n (by omega) (fun Q E q => q) _ _ ?_
        refine lcW_map (I := tt1) trivial (wordD stem sp fi) (fun d hd Qy hq => ?_) ?_ ?_
        · obtain ⟨k, hk, rfl⟩ : ∃ k : Nat, k < n ∧ d = .int k := by
            obtain ⟨i, hi⟩ := List.getElem?_of_mem hd
            exact ⟨i, rng_at hi⟩
          refine tg_one _ rfl ?_
          refine val_op (.str (cutS stem none (some sp) ++ ⟨#[lettN (fi + 7 * k)]⟩)) (.str (cutS stem (some sp) none)) (.str (wordT stem sp fi k)) (val_op (.str (cutS stem none (some sp))) (.str ⟨#[lettN (fi + 7 * k)]⟩) _ ?_ ?_ ?_) ?_ ?_ _ _ hq
          · exact fun Q E q => ⟨szk (by omega), q⟩
          · intro Q E q
            refine ⟨.inl ⟨by decide, by decide⟩, (show (0 : Int) < 26 by decide), by decide +kernel, ?_⟩
            rw [show atI (lettersT.cps.toList) ((fi + 7 * k) % 26) = some (lettN (fi + 7 * k)) from lett_at _]
            exact q
          · exact fun Q q => ⟨szk (by have := key k; show _ + 1 ≤ 1000; omega), q⟩
          · exact fun Q E q => ⟨szk (by omega), q⟩
          · refine fun Q q => ⟨szk ?_, q⟩
            rw [← co_len, co_app, List.length_append, co_len, co_len]
            have := key k
            show _ + 1 + _ ≤ 1000
            omega
        · simp only [rngD, List.length_map, List.length_range, List.length_nil]; exact szk (by omega)
        · refine cast (congrArg (fun z => Q (.lst z) O) ?_) (q ((List.range n).map fun k : Nat => wordT stem sp fi k) (by simp) ?_ ?_)
          · simp only [rngD, List.nil_append, List.map_map]
            refine List.map_congr_left fun k _ => ?_
            simp only [Function.comp, Int.zero_add]; rfl
          · intro w hw
            obtain ⟨k, _, rfl⟩ := List.mem_map.mp hw
            exact wordT_nm sp0 sp1 hs5 hsc
          · rw [List.Nodup, List.pairwise_map]
            refine List.Pairwise.imp_of_mem ?_ List.nodup_range
            intro a b ha hb hne h
            refine hne ?_
            have := List.mem_range.mp ha
            have := List.mem_range.mp hb
            have := wordT_inj sp0 sp1 (Int.natCast_nonneg a) (by omega) (Int.natCast_nonneg b) (by omega) h
            omega
theorem ok_step {f fP fO : Addr} {fd fdP fdO : FuncData} (F : Fun K "_law_step" "_law_step" s_step f fd) (G_pull : FnOk P w K mg base CX0 1 fP fdP ["_law_box_here", "_law_many"] (spB K pullS)) (T_pull : Gf K mg "_law_pull" fP fdP ["_law_box_here", "_law_many"])
    (G_of : FnOk P w K mg base CX0 2 fO fdO ["_law_box_here", "_law_some"] (spB K ofS)) (T_of : Gf K mg "_law_of" fO fdO ["_law_box_here", "_law_some"]) :
    FnOk P w K mg base CX0 3 f fd ["_law_box_here", "_law_cells", "_law_words_here", "_law_many"] (spB K stpS) := by
  refine fn_box F sc_step (fun ds O Q E h => ?_) (fun cdv A outer s H E b l T hr =>
    (d_scons (d_par3 (i := 4) (j := 5) (l := 6) rfl sc_step.nd rfl rfl rfl (by decide) (by decide) (by decide) rfl rfl rfl (d_cons (d_callX G_pull rfl (hr.mono (by decide)) rfl T_pull.m T_pull.k T_pull.b (fun _ => pass0A) (d_cons (d_var (i := 0) rfl (.inl rfl) (by decide) (by decide)) (d_cons (d_var (i := 1) rfl (.inl rfl) (by decide) (by decide)) d_nil rfl) rfl) (by decide) rfl rfl) (d_cons (d_callX G_pull rfl (hr.mono (by decide)) rfl T_pull.m T_pull.k T_pull.b (fun _ => pass0A) (d_cons (d_var (i := 0) rfl (.inl rfl) (by decide) (by decide)) (d_cons (d_var (i := 1) rfl (.inl rfl) (by decide) (by decide)) d_nil rfl) rfl) (by decide) rfl rfl) (d_cons (d_callX G_pull rfl (hr.mono (by decide)) rfl T_pull.m T_pull.k T_pull.b (fun _ => pass0A) (d_cons (d_var (i := 0) rfl (.inl rfl) (by decide) (by decide)) (d_cons (d_var (i := 3) rfl (.inl rfl) (by decide) (by decide)) d_nil rfl) rfl) (by decide) rfl rfl) d_nil rfl) rfl) rfl) rfl rfl)
      (d_scons (d_set (i := 7) sc_step.nd rfl (.inl rfl) (d_callX G_of rfl (hr.mono (by decide)) rfl T_of.m T_of.k T_of.b (fun _ => pass0A) (d_cons (d_var (i := 0) rfl (.inl rfl) (by decide) (by decide)) (d_cons (d_lst (d_cons d_str (d_cons d_str (d_cons d_str (d_cons d_str (d_cons d_str (d_cons d_str (d_cons d_str (d_cons d_str (d_cons d_str (d_cons d_str (d_cons d_str (d_cons d_str (d_cons d_str (d_cons d_str (d_cons d_str (d_cons d_str d_nil rfl) rfl) rfl) rfl) rfl) rfl) rfl) rfl) rfl) rfl) rfl) rfl) rfl) rfl) rfl) rfl)) d_nil rfl) rfl) (by decide) rfl rfl) rfl (.inl rfl))
      (d_scons (d_ifS (d_tcmp od_inS (d_var (i := 7) rfl (.inl rfl) (by decide) (by decide)) (d_tup (d_cons d_str (d_cons d_str (d_cons d_str (d_cons d_str d_nil rfl) rfl) rfl) rfl)) rfl) (d_sone (d_ret (d_tup (d_cons (d_var (i := 7) rfl (.inl rfl) (by decide) (by decide)) (d_cons (d_var (i := 4) rfl (.inl rfl) (by decide) (by decide)) d_nil rfl) rfl)))) d_snil)
      (d_scons (d_ifS (d_tcmp od_inS (d_var (i := 7) rfl (.inl rfl) (by decide) (by decide)) (d_tup (d_cons d_str (d_cons d_str d_nil rfl) rfl)) rfl) (d_sone (d_ret (d_tup (d_cons (d_var (i := 7) rfl (.inl rfl) (by decide) (by decide)) (d_cons (d_var (i := 4) rfl (.inl rfl) (by decide) (by decide)) (d_cons (d_var (i := 5) rfl (.inl rfl) (by decide) (by decide)) (d_cons (d_var (i := 6) rfl (.inl rfl) (by decide) (by decide)) d_nil rfl) rfl) rfl) rfl)))) d_snil)
      (d_scons (d_ifS (d_tcmp (od_eq hr.units) (d_var (i := 7) rfl (.inl rfl) (by decide) (by decide)) d_str (nomark _)) (d_sone (d_ret (d_tup (d_cons (d_var (i := 7) rfl (.inl rfl) (by decide) (by decide)) (d_cons (d_var (i := 4) rfl (.inl rfl) (by decide) (by decide)) (d_cons (d_var (i := 5) rfl (.inl rfl) (by decide) (by decide)) d_nil rfl) rfl) rfl)))) d_snil)
      (d_scons (d_ifS (d_tcmp (od_eq hr.units) (d_var (i := 7) rfl (.inl rfl) (by decide) (by decide)) d_str (nomark _)) (d_sone (d_ret (d_tup (d_cons (d_var (i := 7) rfl (.inl rfl) (by decide) (by decide)) (d_cons (d_ix (d_var (i := 2) rfl (.inl rfl) (by decide) (by decide)) d_int (fun _ _ => rfl)) (d_cons (d_var (i := 4) rfl (.inl rfl) (by decide) (by decide)) (d_cons (d_var (i := 6) rfl (.inl rfl) (by decide) (by decide)) d_nil rfl) rfl) rfl) rfl)))) d_snil)
      (d_scons (d_ifS (d_tcmp (od_eq hr.units) (d_var (i := 7) rfl (.inl rfl) (by decide) (by decide)) d_str (nomark _)) (d_sone (d_ret (d_tup (d_cons (d_var (i := 7) rfl (.inl rfl) (by decide) (by decide)) (d_cons (d_ix (d_var (i := 2) rfl (.inl rfl) (by decide) (by decide)) d_int (fun _ _ => rfl)) (d_cons (d_var (i := 4) rfl (.inl rfl) (by decide) (by decide)) (d_cons (d_var (i := 5) rfl (.inl rfl) (by decide) (by decide)) (d_cons (d_var (i := 6) rfl (.inl rfl) (by decide) (by decide)) d_nil rfl) rfl) rfl) rfl) rfl)))) d_snil)
      (d_sone (d_ret (d_if (d_tcmp (od_eq hr.units) (d_var (i := 7) rfl (.inl rfl) (by decide) (by decide)) d_str (nomark _)) (d_tup (d_cons (d_var (i := 7) rfl (.inl rfl) (by decide) (by decide)) (d_cons (d_var (i := 6) rfl (.inl rfl) (by decide) (by decide)) d_nil rfl) rfl)) (d_tup (d_cons (d_var (i := 7) rfl (.inl rfl) (by decide) (by decide)) d_nil rfl))))))))))))) (fun b ds O Q E h => ?_) (fun ds O Q E h => h)
  · obtain ⟨c, m, w0, w1, ws, rfl, _⟩ := h; rfl
  · obtain ⟨c, m, w0, w1, ws, rfl, c0, c1, m0, m1, q⟩ := h
    rw [show startD N_step [.opq (.ref b), .int c, .lst ((w0 :: w1 :: ws).map D.str), .int m] = [.sh (.opq (.ref b)), .sh (.int c), .sh (.lst ((w0 :: w1 :: ws).map D.str)), .sh (.int m), .un, .un, .un, .un] from rfl]
    refine st_par3N (fun u v z => ∃ x y j : Int, u = .int x ∧ v = .int y ∧ z = .int j ∧ 0 ≤ x ∧ x < c ∧ 0 ≤ y ∧ y < c ∧ 0 ≤ j ∧ j < m) (fun Q E q => ?_) ?_
    · refine val_pull c (fun Q E q => q) (fun Q E q => q) c0 (by omega) _ _ fun x x0 x1 => ?_
      refine val_pull c (fun Q E q => q) (fun Q E q => q) c0 (by omega) _ _ fun y y0 y1 => ?_
      exact val_pull m (fun Q E q => q) (fun Q E q => q) m0 (by omega) _ _ fun j j0 j1 => q _ _ _ ⟨x, y, j, rfl, rfl, rfl, x0, x1, y0, y1, j0, j1⟩
    · rintro _ _ _ ⟨x, y, j, rfl, rfl, rfl, x0, x1, y0, y1, j0, j1⟩
      walk_at "n"
      have fin : ∀ d, d ∈ stpL x y j w0 w1 → Q d O := fun d hd => q d ⟨x, y, j, x0, x1, y0, y1, j0, j1, hd⟩
      refine st_setN (fun d => ∃ z : Str, d = .str z ∧ z ∈ kindL) (fun Q E q => ?_) ?_
      · refine val_of (.lst (kindL.map fun x => .str x)) (fun Q E q => q) (fun Q E q => ⟨le_sz rfl, q⟩) (by decide) (by decide) _ _ fun d hd => ?_
        obtain ⟨z, hz, rfl⟩ := List.mem_map.mp hd
        exact q _ ⟨z, rfl, hz⟩
      · rintro _ ⟨z, rfl, hz⟩
        walk_at "n"
        have hv : ∀ Q E, Q (.str z) O → dVar 7 [.sh (.opq (.ref b)), .sh (.int c), .sh (.lst ((w0 :: w1 :: ws).map D.str)), .sh (.int m), .sh (.int x), .sh (.int y), .sh (.int j), .sh (.str z)] O Q E := fun Q E q => q
        have ht : ∀ {ss : List Str} {mA : DA}, ss.length ≤ 10 → (∀ Q E, Q (ss.map fun x => .str x) O → mA [.sh (.opq (.ref b)), .sh (.int c), .sh (.lst ((w0 :: w1 :: ws).map D.str)), .sh (.int m), .sh (.int x), .sh (.int y), .sh (.int j), .sh (.str z)] O Q E) → ∀ Q E, Q (.tup (ss.map fun x => .str x)) O → dTup mA [.sh (.opq (.ref b)), .sh (.int c), .sh (.lst ((w0 :: w1 :: ws).map D.str)), .sh (.int m), .sh (.int x), .sh (.int y), .sh (.int j), .sh (.str z)] O Q E :=
          fun hl h Q E q => val_tup _ h (by rw [List.length_map]; exact szk (by omega)) Q E q
        refine st_if (kA.any fun y => decide (z = y)) (val_tstB _ (val_inB z kA _ hv (ht (by decide) fun Q E q => q) rfl)) ?_
        cases e1 : kA.any fun y => decide (z = y) with
        | true =>
          refine bcT (val_ret (.tup [.str z, .int x]) (val_tup _ (fun Q E q => q) (le_sz rfl)) (fin _ ?_))
          have hm := any_mem e1
          simp only [kA, List.mem_cons, List.not_mem_nil, or_false] at hm
          rcases hm with rfl | rfl | rfl | rfl <;> simp [stpL]
        | false =>
        refine bcN ?_
        dsimp only
        refine st_if (kB.any fun y => decide (z = y)) (val_tstB _ (val_inB z kB _ hv (ht (by decide) fun Q E q => q) rfl)) ?_
        cases e2 : kB.any fun y => decide (z = y) with
        | true =>
          refine bcT (val_ret (.tup [.str z, .int x, .int y, .int j]) (val_tup _ (fun Q E q => q) (le_sz rfl)) (fin _ ?_))
          have hm := any_mem e2
          simp only [kB, List.mem_cons, List.not_mem_nil, or_false] at hm
          rcases hm with rfl | rfl <;> simp [stpL]
        | false =>
        refine bcN ?_
        dsimp only
        refine st_if (decide (z = "copy")) (val_tstB _ (val_eqB z "copy" _ hv (fun Q E q => q) rfl)) ?_
        cases e3 : decide (z = "copy") with
        | true =>
          refine bcT (val_ret (.tup [.str z, .int x, .int y]) (val_tup _ (fun Q E q => q) (le_sz rfl)) (fin _ ?_))
          rw [of_decide_eq_true e3]; simp [stpL]
        | false =>
        refine bcN ?_
        dsimp only
        refine st_if (decide (z = "has")) (val_tstB _ (val_eqB z "has" _ hv (fun Q E q => q) rfl)) ?_
        cases e4 : decide (z = "has") with
        | true =>
          refine bcT (val_ret (.tup [.str z, .str w1, .int x, .int j]) (val_tup _ (val_cons _ _ hv (val_cons _ _ (val_ix (.inl rfl) (fun Q E q => q) (fun Q E q => q) (show atI _ ((1 : Nat) : Int) = _ from atI_nat rfl)) (fun Q E q => q))) (le_sz rfl)) (fin _ ?_))
          rw [of_decide_eq_true e4]; simp [stpL]
        | false =>
        refine bcN ?_
        dsimp only
        refine st_if (decide (z = "link")) (val_tstB _ (val_eqB z "link" _ hv (fun Q E q => q) rfl)) ?_
        cases e5 : decide (z = "link") with
        | true =>
          refine bcT (val_ret (.tup [.str z, .str w0, .int x, .int y, .int j]) (val_tup _ (val_cons _ _ hv (val_cons _ _ (val_ix (.inl rfl) (fun Q E q => q) (fun Q E q => q) (show atI _ ((0 : Nat) : Int) = _ from atI_nat rfl)) (fun Q E q => q))) (le_sz rfl)) (fin _ ?_))
          rw [of_decide_eq_true e5]; simp [stpL]
        | false =>
        refine bcN ?_
        dsimp only
        refine val_if (decide (z = "jump")) (val_tstB _ (val_eqB z "jump" _ hv (fun Q E q => q) rfl)) ?_
        cases e6 : decide (z = "jump") with
        | true =>
          refine bcT ⟨le_sz rfl, fin _ ?_⟩
          rw [of_decide_eq_true e6]; simp [stpL]
        | false =>
        refine bcF ⟨le_sz rfl, fin _ ?_⟩
        rcases kind_last z hz e1 e2 e3 e4 e5 e6 with rfl | rfl <;> simp [stpL]
theorem ok_plan {f fP fO fS : Addr} {fd fdP fdO fdS : FuncData} (F : Fun K "_law_plan" "_law_plan" s_plan f fd) (G_pull : FnOk P w K mg base CX0 1 fP fdP ["_law_box_here", "_law_many"] (spB K pullS)) (T_pull : Gf K mg "_law_pull" fP fdP ["_law_box_here", "_law_many"])
    (G_of : FnOk P w K mg base CX0 2 fO fdO ["_law_box_here", "_law_some"] (spB K ofS)) (T_of : Gf K mg "_law_of" fO fdO ["_law_box_here", "_law_some"])
    (G_step : FnOk P w K mg base CX0 3 fS fdS ["_law_box_here", "_law_cells", "_law_words_here", "_law_many"] (spB K stpS)) (T_step : Gf K mg "_law_step" fS fdS ["_law_box_here", "_law_cells", "_law_words_here", "_law_many"]) (m_len : mg "len" = none) (m_range : mg "range" = none) :
    FnOk P w K mg base CX0 4 f fd ["_law_box_here", "_law_words_here", "_law_cap"] (spB K planS) := by
  refine fn_box F sc_plan (fun ds O Q E h => ?_) (fun cdv A outer s H E b l T hr =>
    (d_scons (d_set (i := 3) sc_plan.nd rfl (.inl rfl) (d_callX G_pull rfl (hr.mono (by decide)) rfl T_pull.m T_pull.k T_pull.b (fun _ => pass0A) (d_cons (d_var (i := 0) rfl (.inr (.inl rfl)) (by decide) (by decide)) (d_cons d_int d_nil rfl) rfl) (by decide) rfl rfl) rfl (.inl rfl))
      (d_scons (d_set (i := 4) sc_plan.nd rfl (.inr rfl) (d_op od_add (d_op od_mul (d_lst (d_cons d_int d_nil rfl)) (d_var (i := 3) rfl (.inl rfl) (by decide) (by decide))) (d_lc rfl sc_plan.nd (d_rng1 rfl m_range (d_cons (d_op od_add d_int (d_callX G_pull rfl (hr.mono (by decide)) rfl T_pull.m T_pull.k T_pull.b (fun _ => pass0A) (d_cons (d_var (i := 0) rfl (.inr (.inl rfl)) (by decide) (by decide)) (d_cons d_int d_nil rfl) rfl) (by decide) rfl rfl)) d_nil rfl) rfl) (blkOk_by (own := [("_law_k", 7)]) (N := N_plan) (sc := defScope s_plan) (by decide +kernel)) (fun _ _ _ _ _ => (dg_name (i := 7) sc_plan.nd rfl (.inl rfl) (.inr rfl))) (fun _ _ _ _ _ => d_ifs0) (fun _ _ _ _ _ => (d_callX G_of rfl (hr.mono (by decide)) rfl T_of.m T_of.k T_of.b (fun _ => pass0A) (d_cons (d_var (i := 0) rfl (.inr (.inl rfl)) (by decide) (by decide)) (d_cons (d_lst (d_cons d_int (d_cons d_int (d_cons d_int (d_cons d_int d_nil rfl) rfl) rfl) rfl)) d_nil rfl) rfl) (by decide) rfl rfl)) (by decide +kernel) (fun _ => rfl))) rfl (.inl rfl))
      (d_scons (d_set (i := 5) sc_plan.nd rfl (.inr rfl) (d_op od_add d_int (d_callX G_pull rfl (hr.mono (by decide)) rfl T_pull.m T_pull.k T_pull.b (fun _ => pass0A) (d_cons (d_var (i := 0) rfl (.inr (.inl rfl)) (by decide) (by decide)) (d_cons (d_var (i := 2) rfl (.inl rfl) (by decide) (by decide)) d_nil rfl) rfl) (by decide) rfl rfl)) rfl (.inl rfl))
      (d_scons (d_setLc (i := 6) rfl sc_plan.nd rfl rfl (sw_true rfl rfl rfl (by decide +kernel)) (d_rng1 rfl m_range (d_cons (d_op od_sub (d_var (i := 5) rfl (.inr (.inl rfl)) (by decide) (by decide)) d_int) d_nil rfl) rfl) (blkOk_by (own := [("_law_k", 7)]) (N := N_plan) (sc := defScope s_plan) (by decide +kernel)) (fun _ _ _ _ _ => (dg_name (i := 7) sc_plan.nd rfl (.inl rfl) (.inr rfl))) (fun _ _ _ _ _ => d_ifs0) (fun _ _ _ _ _ => (d_callX G_step rfl (hr.mono (by decide)) rfl T_step.m T_step.k T_step.b (fun _ => pass0A) (d_cons (d_var (i := 0) rfl (.inr (.inl rfl)) (by decide) (by decide)) (d_cons (d_callB cd_len rfl m_len boot_len (d_cons (d_var (i := 4) rfl (.inr (.inl rfl)) (by decide) (by decide)) d_nil rfl) (by decide) (by decide) rfl rfl) (d_cons (d_var (i := 1) rfl (.inr (.inl rfl)) (by decide) (by decide)) (d_cons (d_var (i := 5) rfl (.inr (.inl rfl)) (by decide) (by decide)) d_nil rfl) rfl) rfl) rfl) (by decide) rfl rfl)) (by decide +kernel) (fun _ => rfl))
      (d_sone (d_ret (d_tup (d_cons (d_var (i := 4) rfl (.inr (.inl rfl)) (by decide) (by decide)) (d_cons (d_op od_add (d_var (i := 6) rfl (.inl rfl) (by decide) (by decide)) (d_lst (d_cons (d_callX G_of rfl (hr.mono (by decide)) rfl T_of.m T_of.k T_of.b (fun _ => pass0A) (d_cons (d_var (i := 0) rfl (.inr (.inl rfl)) (by decide) (by decide)) (d_cons (d_lst (d_cons (d_tup (d_cons d_str d_nil rfl)) (d_cons (d_tup (d_cons d_str d_nil rfl)) (d_cons (d_tup (d_cons d_str (d_cons (d_callX G_pull rfl (hr.mono (by decide)) rfl T_pull.m T_pull.k T_pull.b (fun _ => pass0A) (d_cons (d_var (i := 0) rfl (.inr (.inl rfl)) (by decide) (by decide)) (d_cons (d_var (i := 5) rfl (.inr (.inl rfl)) (by decide) (by decide)) d_nil rfl) rfl) (by decide) rfl rfl) d_nil rfl) rfl)) (d_cons (d_tup (d_cons d_str d_nil rfl)) d_nil rfl) rfl) rfl) rfl)) d_nil rfl) rfl) (by decide) rfl rfl) d_nil rfl))) (d_cons (d_var (i := 3) rfl (.inl rfl) (by decide) (by decide)) d_nil rfl) rfl) rfl))))))))) (fun b ds O Q E h => ?_) (fun ds O Q E h => h)
  · obtain ⟨cap, w0, w1, ws, rfl, _⟩ := h; rfl
  · obtain ⟨cap, w0, w1, ws, rfl, cap1, cap2, q⟩ := h
    rw [show startD N_plan [.opq (.ref b), .lst ((w0 :: w1 :: ws).map D.str), .int cap] = [.sh (.opq (.ref b)), .sh (.lst ((w0 :: w1 :: ws).map D.str)), .sh (.int cap), .un, .un, .un, .un, .un] from rfl]
    refine st_setN (fun d => ∃ i : Nat, i ≤ 1 ∧ d = .int i) (fun Q E q => ?_) ?_
    · exact val_pull 2 (fun Q E q => q) (fun Q E q => q) (by decide) (by decide) _ _ fun k k0 k1 => q _ ⟨k.toNat, by omega, by rw [show ((k.toNat : Nat) : Int) = k by omega]⟩
    rintro _ ⟨i, hi, rfl⟩
    walk_at "n"
    refine st_setN (fun d => ∃ xs : List D, d = .lst (List.replicate i (.int 0) ++ xs) ∧ 1 ≤ xs.length ∧ xs.length ≤ 2 ∧ ∀ x ∈ xs, x ∈ cutL) (fun Q E q => ?_) ?_
    · refine val_rep (.int 0) i (fun Q E q => ⟨le_sz rfl, q⟩) (fun Q E q => q) (by omega) _ _ ?_
      refine val_pull 2 (fun Q E q => q) (fun Q E q => q) (by decide) (by decide) _ _ fun k k0 k1 => ?_
      refine ⟨by omega, by omega, ?_⟩
      refine lcW_each (I := tt1) trivial (fun _ y => y ∈ cutL) (fun d hd Qy hq => ?_) ?_ fun ys hE => ?_
      · exact val_of (.lst cutL) (fun Q E q => q) (fun Q E q => ⟨le_sz rfl, q⟩) (by decide) (by decide) _ _ fun y hy => hq y hy
      · simp only [rngD, List.length_map, List.length_range, List.length_nil]; exact szk (by omega)
      · have hl := hE.length
        simp only [rngD, List.length_map, List.length_range] at hl
        refine ⟨?_, q _ ⟨ys, rfl, by omega, by omega, each_mem hE⟩⟩
        rw [List.length_replicate]; exact szk (by simp only [List.nil_append]; omega)
    rintro _ ⟨xs, rfl, hx1, hx2, hx⟩
    walk_at "n"
    refine st_setN (fun d => ∃ m : Nat, 1 ≤ m ∧ m ≤ cap ∧ d = .int m) (fun Q E q => ?_) ?_
    · refine val_pull cap (fun Q E q => q) (fun Q E q => q) (by omega) (by omega) _ _ fun k k0 k1 => ?_
      exact q _ ⟨(1 + k).toNat, by omega, by omega, by rw [show (((1 + k).toNat : Nat) : Int) = 1 + k by omega]⟩
    rintro _ ⟨m, hm1, hm2, rfl⟩
    walk_at "n"
    refine st_setN (fun d => ∃ ys : List D, d = .lst ys ∧ ys.length = m - 1 ∧ ∀ y ∈ ys, Stp (List.replicate i (D.int 0) ++ xs).length m w0 w1 y) (fun Q E q => ?_) ?_
    · refine val_rng (m - 1) (by omega) (fun Q E q => ?_) _ _ ?_
      · rw [show ((m - 1 : Nat) : Int) = (m : Int) - 1 by omega] at q; exact ⟨trivial, q⟩
      refine lcW_each (I := tt1) trivial (fun _ y => Stp (List.replicate i (D.int 0) ++ xs).length m w0 w1 y) (fun d hd Qy hq => ?_) ?_ fun ys hE => ?_
      · refine ⟨rfl, spM.of ⟨_, _, w0, w1, ws, rfl, ?_, ?_, ?_, ?_, hq⟩⟩ <;> first | omega | (simp only [List.length_append, List.length_replicate]; omega)
      · simp only [rngD, List.length_map, List.length_range, List.length_nil]; exact szk (by omega)
      · have hl := hE.length
        simp only [rngD, List.length_map, List.length_range] at hl
        exact q _ ⟨ys, rfl, hl, each_P hE⟩
    rintro _ ⟨ys, rfl, hyl, hys⟩
    walk_at "n"
    refine val_retX ?_
    refine vN_tup3 (.lst (List.replicate i (.int 0) ++ xs)) (.int i) (P := fun d => ∃ z, d = .lst (ys ++ [z]) ∧ (z = .tup [.str "end"] ∨ z = .tup [.str "refuse"] ∨ ∃ j : Int, 0 ≤ j ∧ j < m ∧ z = .tup [.str "jump", .int j])) ?_ ?_ ?_ ?_
    · exact fun Q E q => q
    · intro Q E q
      refine vN_app1 ys (P := fun z => z = .tup [.str "end"] ∨ z = .tup [.str "refuse"] ∨ ∃ j : Int, 0 ≤ j ∧ j < m ∧ z = .tup [.str "jump", .int j]) ?_ ?_ ?_ _ _ ?_
      · exact fun Q E q => q
      · intro Q E q
        refine val_ofN (P := fun d => ∃ j : Int, 0 ≤ j ∧ j < m ∧ d = .lst [.tup [.str "end"], .tup [.str "end"], .tup [.str "jump", .int j], .tup [.str "refuse"]]) ?_ ?_ ?_ _ _ ?_
        · exact fun Q E q => q
        · intro Q E q
          refine ⟨le_sz rfl, le_sz rfl, ?_⟩
          refine val_pull m ?_ ?_ (by omega) (by omega) _ _ ?_
          · exact fun Q E q => q
          · exact fun Q E q => q
          · exact fun j j0 j1 => ⟨le_sz rfl, le_sz rfl, le_sz rfl, q _ ⟨j, j0, j1, rfl⟩⟩
        · rintro _ ⟨j, _, _, rfl⟩
          exact ⟨Nat.lt_of_lt_of_le (show 0 < 4 by decide) (Nat.le_refl _), show 4 < 1000000 by decide⟩
        · rintro _ ⟨j, j0, j1, rfl⟩ z hz
          refine q z ?_
          simp only [itemsL, List.mem_cons, List.not_mem_nil, or_false] at hz
          rcases hz with rfl | rfl | rfl | rfl
          · exact .inl rfl
          · exact .inl rfl
          · exact .inr (.inr ⟨j, j0, j1, rfl⟩)
          · exact .inr (.inl rfl)
      · exact szk (by omega)
      · exact fun z hz => q _ ⟨z, rfl, hz⟩
    · exact fun Q E q => q
    · rintro _ ⟨z, rfl, hz⟩
      have el : (ys ++ [z]).length = m := by simp; omega
      exact q _ _ i ⟨hi, ⟨xs, rfl, hx1, hx2, hx⟩, ys, z, rfl, by omega, by rw [el]; exact hys, by rw [el]; exact hz⟩
end
end LW
set_option Elab.async false
set_option linter.all false
set_option maxRecDepth 100000
set_option maxHeartbeats 4000000
set_option pp.maxSteps 400
namespace LW
open PySem PySem.Spec PyProof.Rows L2 EV PySem.XO PySem.W LamX
theorem isStp_of {z fm : Str} {xs : List D} {c r : Int} (e : formsT.lookup z = some (.str fm)) : isStp (.tup (.str z :: xs)) c r = (decide (xs.length = fm.length) && (List.zip (co fm) xs).all fun p => kindOk p.1 p.2 c r) := by
  simp only [isStp, e]
theorem kc {a c r : Int} (h0 : 0 ≤ a) (h1 : a < c) : kindOk 99 (.int a) c r = true := by
  simp [kindOk, isNum]; omega
theorem kj {a c r : Int} (h0 : 0 ≤ a) (h1 : a < r) : kindOk 106 (.int a) c r = true := by
  simp [kindOk, isNum]; omega
theorem kt {y : Str} {c r : Int} (h : isNm (.str y) = true) : kindOk 116 (.str y) c r = true := by
  simp [kindOk, h]
theorem Stp.mono {c c' m m' : Int} {w0 w1 : Str} {d : D} (h : Stp c m w0 w1 d) (hc : c ≤ c') (hm : m ≤ m') : Stp c' m' w0 w1 d := by
  obtain ⟨a, b, j, a0, a1, b0, b1, j0, j1, h⟩ := h
  exact ⟨a, b, j, a0, by omega, b0, by omega, j0, by omega, h⟩
theorem fc1 : co ("c" : Str) = [99] := by decide +kernel
theorem fcc : co ("cc" : Str) = [99, 99] := by decide +kernel
theorem fccj : co ("ccj" : Str) = [99, 99, 106] := by decide +kernel
theorem ftcj : co ("tcj" : Str) = [116, 99, 106] := by decide +kernel
theorem ftccj : co ("tccj" : Str) = [116, 99, 99, 106] := by decide +kernel
theorem fj : co ("j" : Str) = [106] := by decide +kernel
theorem f0 : co ("" : Str) = [] := by decide +kernel
theorem stp_ok {c m : Int} {w0 w1 : Str} {d : D} (n0 : isNm (.str w0) = true) (n1 : isNm (.str w1) = true) (h : Stp c m w0 w1 d) : isStp d c m = true := by
  obtain ⟨a, b, j, a0, a1, b0, b1, j0, j1, h⟩ := h
  simp only [stpL, List.mem_cons, List.not_mem_nil, or_false] at h
  rcases h with rfl | rfl | rfl | rfl | rfl | rfl | rfl | rfl | rfl | rfl | rfl | rfl
  · rw [isStp_of (fm := "c") rfl, fc1]; simp [kc a0 a1]; rfl
  · rw [isStp_of (fm := "c") rfl, fc1]; simp [kc a0 a1]; rfl
  · rw [isStp_of (fm := "c") rfl, fc1]; simp [kc a0 a1]; rfl
  · rw [isStp_of (fm := "c") rfl, fc1]; simp [kc a0 a1]; rfl
  · rw [isStp_of (fm := "ccj") rfl, fccj]; simp [kc a0 a1, kc b0 b1, kj j0 j1]; rfl
  · rw [isStp_of (fm := "ccj") rfl, fccj]; simp [kc a0 a1, kc b0 b1, kj j0 j1]; rfl
  · rw [isStp_of (fm := "cc") rfl, fcc]; simp [kc a0 a1, kc b0 b1]; rfl
  · rw [isStp_of (fm := "tcj") rfl, ftcj]; simp [kc a0 a1, kj j0 j1, kt n1]; rfl
  · rw [isStp_of (fm := "tccj") rfl, ftccj]; simp [kc a0 a1, kc b0 b1, kj j0 j1, kt n0]; rfl
  · rw [isStp_of (fm := "j") rfl, fj]; simp [kj j0 j1]; rfl
  · rw [isStp_of (fm := "") rfl, f0]; simp; rfl
  · rw [isStp_of (fm := "") rfl, f0]; simp; rfl
theorem valI_put (pl : Pls) (k k' : Key) (v : Int) : valI (putI pl k v) k' = if k' = k then some v else valI pl k' := by
  unfold putI valI
  by_cases h : (pl.any fun kv => decide (kv.1 = k)) = true
  · rw [if_pos h]
    induction pl with
    | nil => simp at h
    | cons p pl ih =>
      simp only [List.map_cons, List.find?_cons]
      by_cases e : p.1 = k
      · simp only [e, if_true]
        by_cases e2 : k' = k
        · simp [e2]
        · have e3 : ¬ k = k' := fun z => e2 z.symm
          simp only [e3, decide_false, if_neg e2]
          by_cases h2 : (pl.any fun kv => decide (kv.1 = k)) = true
          · have := ih h2
            rw [if_neg e2] at this
            exact this
          · congr 2
            have hk : ∀ q ∈ pl, ¬ q.1 = k := fun q hq z => h2 (List.any_eq_true.mpr ⟨q, hq, by simp [z]⟩)
            rw [List.map_congr_left (g := id) fun q hq => by simp [hk q hq], List.map_id]
      · simp only [e, if_false]
        by_cases e4 : p.1 = k'
        · have e2 : ¬ k' = k := fun z => e (e4.trans z)
          simp [e4, e2]
        · simp only [e4, decide_false]
          refine ih ?_
          simpa [e] using h
  · rw [if_neg h]
    have hk : ∀ q ∈ pl, ¬ q.1 = k := fun q hq z => h (List.any_eq_true.mpr ⟨q, hq, by simp [z]⟩)
    rw [List.find?_append]
    by_cases e2 : k' = k
    · rw [if_pos e2]
      have : pl.find? (fun kv => decide (kv.1 = k')) = none := List.find?_eq_none.mpr fun q hq => by simp [e2, hk q hq]
      rw [this]; simp [e2]
    · rw [if_neg e2]
      have e3 : ¬ k = k' := fun z => e2 z.symm
      simp [e3]
def PlOk (w0 w1 : Str) (pl : Pls) : Prop := ∀ y v, valI pl (.inr y) = some v → (y = w1 ∧ v = 1) ∨ (y = w0 ∧ v = 2)
theorem PlOk.nil {w0 w1 : Str} : PlOk w0 w1 [] := fun y v h => by cases h
theorem PlOk.put1 {w0 w1 : Str} {pl : Pls} (h : PlOk w0 w1 pl) : PlOk w0 w1 (putI pl (.inr w1) 1) := fun y v e => by
  rw [valI_put] at e
  split at e
  · rename_i h1
    cases h1; cases e; exact .inl ⟨rfl, rfl⟩
  · exact h y v e
theorem PlOk.put2 {w0 w1 : Str} {pl : Pls} (h : PlOk w0 w1 pl) : PlOk w0 w1 (putI pl (.inr w0) 2) := fun y v e => by
  rw [valI_put] at e
  split at e
  · rename_i h1
    cases h1; cases e; exact .inr ⟨rfl, rfl⟩
  · exact h y v e
theorem bad_not {c n : Int} {d : D} {ds : List D} {i : Nat} {pl : Pls} (h : isStp d c n = false) : rowsBad c n (d :: ds) i pl = some i := by
  unfold rowsBad
  exact if_pos h
theorem bad_plain {c n : Int} {z : Str} {xs ds : List D} {i : Nat} {pl : Pls} (h : isStp (.tup (.str z :: xs)) c n = true) (e : placesN.lookup z = none) : rowsBad c n (.tup (.str z :: xs) :: ds) i pl = rowsBad c n ds (i + 1) pl := by
  conv => lhs; unfold rowsBad
  rw [if_neg (by rw [h]; decide)]
  dsimp only
  rw [e]
theorem bad_place {c n v : Int} {z y : Str} {xs ds : List D} {i : Nat} {pl : Pls} (h : isStp (.tup (.str z :: .str y :: xs)) c n = true) (e : placesN.lookup z = some v) : rowsBad c n (.tup (.str z :: .str y :: xs) :: ds) i pl = if (valI pl (.inr y)).getD v = v then rowsBad c n ds (i + 1) (putI pl (.inr y) v) else some i := by
  conv => lhs; unfold rowsBad
  rw [if_neg (by rw [h]; decide)]
  dsimp only
  rw [e]
theorem bad_cons {c n : Int} {w0 w1 : Str} {d : D} (n0 : isNm (.str w0) = true) (n1 : isNm (.str w1) = true) (ne : w0 ≠ w1) (hd : Stp c n w0 w1 d) {pl : Pls} (hp : PlOk w0 w1 pl) (i : Nat) : ∃ pl', PlOk w0 w1 pl' ∧ ∀ ds, rowsBad c n (d :: ds) i pl = rowsBad c n ds (i + 1) pl' := by
  have hs := stp_ok n0 n1 hd
  obtain ⟨a, b, j, a0, a1, b0, b1, j0, j1, h⟩ := hd
  simp only [stpL, List.mem_cons, List.not_mem_nil, or_false] at h
  rcases h with rfl | rfl | rfl | rfl | rfl | rfl | rfl | rfl | rfl | rfl | rfl | rfl
  · exact ⟨pl, hp, fun ds => bad_plain hs rfl⟩
  · exact ⟨pl, hp, fun ds => bad_plain hs rfl⟩
  · exact ⟨pl, hp, fun ds => bad_plain hs rfl⟩
  · exact ⟨pl, hp, fun ds => bad_plain hs rfl⟩
  · exact ⟨pl, hp, fun ds => bad_plain hs rfl⟩
  · exact ⟨pl, hp, fun ds => bad_plain hs rfl⟩
  · exact ⟨pl, hp, fun ds => bad_plain hs rfl⟩
  · refine ⟨_, hp.put1, fun ds => ?_⟩
    rw [bad_place (v := 1) hs rfl, if_pos]
    cases e : valI pl (.inr w1) with
    | none => rfl
    | some v =>
      rcases hp _ _ e with ⟨_, h⟩ | ⟨h, _⟩
      · exact h
      · exact absurd h.symm ne
  · refine ⟨_, hp.put2, fun ds => ?_⟩
    rw [bad_place (v := 2) hs rfl, if_pos]
    cases e : valI pl (.inr w0) with
    | none => rfl
    | some v =>
      rcases hp _ _ e with ⟨h, _⟩ | ⟨_, h⟩
      · exact absurd h ne
      · exact h
  · exact ⟨pl, hp, fun ds => bad_plain hs rfl⟩
  · exact ⟨pl, hp, fun ds => bad_plain hs rfl⟩
  · exact ⟨pl, hp, fun ds => bad_plain hs rfl⟩
theorem bad_app {c n : Int} {w0 w1 : Str} (n0 : isNm (.str w0) = true) (n1 : isNm (.str w1) = true) (ne : w0 ≠ w1) : ∀ {ds : List D}, (∀ d ∈ ds, Stp c n w0 w1 d) → ∀ {pl : Pls}, PlOk w0 w1 pl → ∀ i : Nat, ∃ pl', PlOk w0 w1 pl' ∧ ∀ rest, rowsBad c n (ds ++ rest) i pl = rowsBad c n rest (i + ds.length) pl'
  | [], _, pl, hp, i => ⟨pl, hp, fun rest => rfl⟩
  | d :: ds, h, pl, hp, i => by
    obtain ⟨pl1, h1, e1⟩ := bad_cons n0 n1 ne (h d List.mem_cons_self) hp i
    obtain ⟨pl2, h2, e2⟩ := bad_app n0 n1 ne (fun x hx => h x (List.mem_cons_of_mem _ hx)) h1 (i + 1)
    refine ⟨pl2, h2, fun rest => ?_⟩
    rw [List.cons_append, e1, e2, List.length_cons]
    congr 1
    omega
theorem chk_good {c : Int} {w0 w1 : Str} {ys : List D} {z : D} (n0 : isNm (.str w0) = true) (n1 : isNm (.str w1) = true) (ne : w0 ≠ w1) (h : ∀ d ∈ ys ++ [z], Stp c (ys ++ [z]).length w0 w1 d) (hl : lastOk z = true) : chkRows c (ys ++ [z]) = none := by
  obtain ⟨pl, _, e⟩ := bad_app n0 n1 ne h PlOk.nil 0
  have e2 := e []
  rw [List.append_nil] at e2
  unfold chkRows
  rw [e2]
  simp [rowsBad, hl]
theorem cut_num : ∀ c ∈ cutL, isNum c 0 10000 = true ∧ (tyD c).isSome = true := by
  intro c h
  simp only [cutL, List.mem_cons, List.not_mem_nil, or_false] at h
  rcases h with rfl | rfl | rfl | rfl <;> exact ⟨by decide, rfl⟩
theorem Plan.cell {cap : Nat} {w0 w1 : Str} {cs rs : List D} {i : Nat} (h : Plan cap w0 w1 cs rs i) : 1 ≤ cs.length ∧ cs.length ≤ 3 ∧ i ≤ cs.length ∧ (∀ c ∈ cs, isNum c 0 10000 = true ∧ (tyD c).isSome = true) ∧ ∀ j, j < i → isZero (cs.getD j .non) = true := by
  obtain ⟨xs, e, h1, h2, hx⟩ := h.hcs
  have hi := h.i1
  refine ⟨by rw [e]; simp; omega, by rw [e]; simp; omega, by rw [e]; simp, fun c hc => ?_, fun j hj => ?_⟩
  · rw [e, List.mem_append] at hc
    rcases hc with hc | hc
    · rw [List.eq_of_mem_replicate hc]; exact ⟨by decide, rfl⟩
    · exact cut_num c (hx c hc)
  · have : cs[j]? = some (.int 0) := by rw [e, List.getElem?_append_left (by simpa using hj), List.getElem?_replicate, if_pos hj]
    rw [getD_of this]; rfl
/-- with a plan's cells all hangs on the rows -/
theorem Plan.rdX {cap : Nat} {w0 w1 : Str} {cs rs : List D} {i : Nat} {AA : Str → Addr} (h : Plan cap w0 w1 cs rs i) (n : Nat) (hn : n ≤ i) (rs' : List D) (hl : rs'.length ≤ 10000) : LW.rdX AA cs rs' (.int n) = (chkRows cs.length rs').map fun k => stepX (AA "InvalidStep") k := by
  obtain ⟨c1, c3, ci, hc, hz⟩ := h.cell
  have e : wideAt cs ((n : Int)).toNat = none := find_no fun j hj => by rw [hz j (by omega)]; rfl
  unfold LW.rdX
  rw [if_neg (by omega), cells_ok fun c h => (hc c h).1]
  dsimp only
  rw [if_neg (by simp [isNum]; omega), e]
  dsimp only
  rw [if_neg (by omega)]
theorem Plan.rows {cap : Nat} {w0 w1 : Str} {cs rs : List D} {i : Nat} (h : Plan cap w0 w1 cs rs i) : (∀ r ∈ rs, Stp cs.length rs.length w0 w1 r) ∧ 1 ≤ rs.length ∧ rs.length ≤ cap ∧ ∃ ys z, rs = ys ++ [z] ∧ lastOk z = true ∧ ∃ (j : Int), 0 ≤ j ∧ j < rs.length ∧ z ∈ [.tup [.str "end"], .tup [.str "refuse"], .tup [.str "jump", .int j]] := by
  obtain ⟨ys, z, e, hl, hy, hz⟩ := h.hrs
  obtain ⟨c1, _⟩ := h.cell
  have el : rs.length = ys.length + 1 := by rw [e]; simp
  have hz' : lastOk z = true ∧ ∃ (j : Int), 0 ≤ j ∧ j < rs.length ∧ z ∈ [.tup [.str "end"], .tup [.str "refuse"], .tup [.str "jump", .int j]] := by
    rcases hz with rfl | rfl | ⟨j, j0, j1, rfl⟩
    · exact ⟨by decide +kernel, 0, by omega, by omega, by simp⟩
    · exact ⟨by decide +kernel, 0, by omega, by omega, by simp⟩
    · exact ⟨by rfl, j, j0, j1, by simp⟩
  refine ⟨fun r hr => ?_, by omega, by omega, ys, z, e, hz'⟩
  rw [e, List.mem_append] at hr
  rcases hr with hr | hr
  · exact hy r hr
  · simp only [List.mem_cons, List.not_mem_nil, or_false] at hr
    obtain ⟨_, j, j0, j1, hm⟩ := hz'
    subst hr
    refine ⟨0, 0, j, by omega, by omega, by omega, by omega, j0, j1, ?_⟩
    simp only [List.mem_cons, List.not_mem_nil, or_false] at hm
    rcases hm with rfl | rfl | rfl <;> simp [stpL]
theorem Plan.good {cap : Nat} {w0 w1 : Str} {cs rs : List D} {i : Nat} {AA : Str → Addr} (h : Plan cap w0 w1 cs rs i) (hcap : cap ≤ 1000) (n0 : isNm (.str w0) = true) (n1 : isNm (.str w1) = true) (ne : w0 ≠ w1) : LW.rdX AA cs rs (.int i) = none := by
  obtain ⟨hr, l1, l2, ys, z, e, hz, _⟩ := h.rows
  rw [h.rdX i (Nat.le_refl _) rs (by omega)]
  subst e
  rw [chk_good n0 n1 ne hr hz]
  rfl
end LW
set_option Elab.async false
set_option linter.all false
set_option maxRecDepth 100000
set_option maxHeartbeats 4000000
namespace EV
open PySem PySem.Spec PyProof.Rows L2 StX
abbrev dStar (m : DE) (mr : DA) : DA := fun ρ O Q E => m ρ O (fun d O1 => match d with
  | .lst xs => mr ρ O1 (fun ys O2 => Q (xs ++ ys) O2) E
  | .tup xs => mr ρ O1 (fun ys O2 => Q (xs ++ ys) O2) E
  | _ => False) E
section
variable {X : Cx} {L : Pl} {e : Expr} {es : List Expr} {m : DE} {mA : DA} {p : Pos}
theorem mo_star (ha : Mo m) (hr : Mo mA) : Mo (dStar m mA) := fun ρ O Q Q' E E' q hx x => ha ρ _ _ _ _ _ (fun d _ z => by
  cases d <;> first
    | exact hr ρ _ _ _ _ _ (fun _ _ y => q _ _ y) hx z
    | exact z) hx x
theorem d_star (ha : DPE X L e m) (hr : DPA X L es mA) (hs : starEach (.Starred e p :: es) X.env = (true, eval e X.env) :: starEach es X.env) : DPA X L (.Starred e p :: es) (dStar m mA) := by
  refine ⟨mo_star ha.mo hr.mo, pa_imp (pa_star ha.run hr.run hs) fun σ H Q ⟨G, O, ρ, g, rs, q⟩ => ?_⟩
  refine up_of ha.mo g rs q fun x v O1 G1 H1 q1 s1 r1 => ?_
  cases r1 with
  | lst h r => exact ⟨_, _, rfl, .inr (s1.good.sub.sqL (SqL.of h)), upA_of hr.mo s1.good (rs.step s1) (mo_step hr.mo s1 q1) fun xs vs O2 G2 H2 q2 s2 r2 => q2 _ _ _ (s1.trans s2) ((r.mono s2.grow).append r2)⟩
  | tup h r => exact ⟨_, _, rfl, .inl (s1.good.sub.sqT h), upA_of hr.mo s1.good (rs.step s1) (mo_step hr.mo s1 q1) fun xs vs O2 G2 H2 q2 s2 r2 => q2 _ _ _ (s1.trans s2) ((r.mono s2.grow).append r2)⟩
  | _ => exact q1.elim
end
end EV
set_option Elab.async false
set_option linter.all false
set_option maxRecDepth 100000
set_option maxHeartbeats 4000000
namespace EV
open PySem PySem.Spec PyProof.Rows L2
end EV
set_option Elab.async false
set_option linter.all false
set_option maxRecDepth 100000
set_option maxHeartbeats 4000000
set_option pp.maxSteps 400
set_option Elab.async false
set_option linter.all false
set_option maxRecDepth 100000
set_option maxHeartbeats 4000000
set_option pp.maxSteps 400
namespace LW
open PySem PySem.Spec PyProof.Rows L2 EV PySem.XO PySem.W LamX
theorem chk_at {c : Int} {rs : List D} {k : Nat} (h : rowsBad c rs.length rs 0 [] = some k) : chkRows c rs = some k := by
  unfold chkRows; rw [h]
theorem take_stp {c n n' : Int} {w0 w1 : Str} {rs : List D} (h : ∀ r ∈ rs, Stp c n w0 w1 r) (hn : n ≤ n') (k : Nat) : ∀ r ∈ rs.take k, Stp c n' w0 w1 r := fun r hr => (h r (List.mem_of_mem_take hr)).mono (Int.le_refl _) hn
/-- a row that cannot stand -/
theorem chk_bad {c : Int} {w0 w1 : Str} {rs : List D} {r : D} {k : Nat} (n0 : isNm (.str w0) = true) (n1 : isNm (.str w1) = true) (ne : w0 ≠ w1) (h : ∀ r ∈ rs, Stp c rs.length w0 w1 r) (hk : k ≤ rs.length) (hr : isStp r c ((rs.length : Int) + 1) = false) : chkRows c (rs.take k ++ [r] ++ rs.drop k) = some k := by
  have hl : (rs.take k ++ [r] ++ rs.drop k).length = rs.length + 1 := by simp; omega
  refine chk_at ?_
  rw [hl]
  obtain ⟨pl, _, e⟩ := bad_app n0 n1 ne (take_stp (n' := ((rs.length + 1 : Nat) : Int)) h (by omega) k) PlOk.nil 0
  rw [List.append_assoc, e, List.singleton_append, bad_not (by exact hr), List.length_take]
  congr 1
  omega
/-- a last row that does not end -/
theorem chk_last {c : Int} {w0 w1 : Str} {rs : List D} {z : D} (n0 : isNm (.str w0) = true) (n1 : isNm (.str w1) = true) (ne : w0 ≠ w1) (h : ∀ r ∈ rs, Stp c rs.length w0 w1 r) (hz : Stp c ((rs.length : Int) + 1) w0 w1 z) (hl : lastOk z = false) : chkRows c (rs ++ [z]) = some rs.length := by
  have h2 : ∀ d ∈ rs ++ [z], Stp c ((rs ++ [z]).length : Int) w0 w1 d := fun d hd => by
    rw [List.mem_append] at hd
    rw [List.length_append, List.length_singleton]
    rcases hd with hd | hd
    · exact (h d hd).mono (Int.le_refl _) (by omega)
    · simp only [List.mem_cons, List.not_mem_nil, or_false] at hd
      subst hd; exact hz
  obtain ⟨pl, _, e⟩ := bad_app n0 n1 ne h2 PlOk.nil 0
  have e2 := e []
  rw [List.append_nil] at e2
  unfold chkRows
  rw [e2]
  simp [rowsBad, hl]
end LW
set_option Elab.async false
set_option linter.all false
set_option maxRecDepth 100000
set_option maxHeartbeats 4000000
set_option pp.maxSteps 400
set_option Elab.async false
set_option linter.all false
set_option maxRecDepth 100000
set_option maxHeartbeats 4000000
namespace EV
open PySem PySem.Spec PyProof.Rows L2
/-- what is gathered so far, at Dd -/
structure Gth (K : PySem.W.Frag) (B : Bo) (O : Ow) (G H : Hp) (Dd : Addr) (O1 : Ow) (G1 H1 : Hp) (acc : List D) (vacc : List V) : Prop where
  st : Step K B O G H O1 G1 H1
  gD : G1 Dd = none
  oD : O1 Dd = none
  hD : H1 Dd = some (.lst vacc)
  ra : RpL K G1 vacc acc
section
variable {K : PySem.W.Frag} {B : Bo} {O O1 O2 : Ow} {G H G1 H1 G2 H2 : Hp} {Dd : Addr} {acc : List D} {vacc : List V}
theorem Gth.step (nb : ¬ Hid B Dd) (g : Gth K B O G H Dd O1 G1 H1 acc vacc) (s : Step K B O1 G1 H1 O2 G2 H2) : Gth K B O G H Dd O2 G2 H2 acc vacc :=
  ⟨g.st.trans s, (s.hid _ _ g.hD g.gD g.oD).1, (s.hid _ _ g.hD g.gD g.oD).2, s.keep _ _ g.hD nb g.oD, g.ra.mono s.grow⟩
theorem Gth.lay (nb : ¬ Hid B Dd) (nH : H Dd = none) (st : Step K B O G H O1 G1 H1) (gD : G1 Dd = none) (oD : O1 Dd = none) (n3 : ∀ φ, H1 Dd ≠ some (.ext φ)) (ra : RpL K G1 vacc acc) : Gth K B O G H Dd O1 G1 (upd H1 Dd (.lst vacc)) acc vacc := by
  have gd := st.good
  have gd2 : Good K B O1 G1 (upd H1 Dd (.lst vacc)) := by
    refine ⟨fun a o e => ?_, fun b l T e => ?_, gd.amb, fun p d e => ?_⟩
    · rw [upd_ne (fun z => by rw [z, gD] at e; cases e)]; exact gd.sub a o e
    · refine (gd.box b l T e).step (Sub.refl _) (fun a ha => gd.hidG ⟨b, l, T, e, ha⟩) fun a o ha h => ?_
      rw [upd_ne (fun z => nb (by rw [← z]; exact ⟨b, l, T, e, ha⟩))]
      exact h
    · obtain ⟨a, b, c⟩ := gd.own p d e
      exact ⟨a, b, c.mono (Sub.refl _) fun o h => by rw [upd_ne (fun z => by rw [z, oD] at e; cases e)]; exact h⟩
  exact ⟨⟨st.grow, gd2, fun a o e n z => by rw [upd_ne (fun z => by rw [z, nH] at e; cases e)]; exact st.keep a o e n z, st.hid, fun a h => upd_still a (st.still a h)⟩, gD, oD, upd_same, ra⟩
theorem Gth.put {v : V} {d : D} (nb : ¬ Hid B Dd) (nH : H Dd = none) (g : Gth K B O G H Dd O1 G1 H1 acc vacc) (r : Rp K G1 v d) : Gth K B O G H Dd O1 G1 (upd H1 Dd (.lst (vacc ++ [v]))) (acc ++ [d]) (vacc ++ [v]) :=
  Gth.lay nb nH g.st g.gD g.oD (fun φ z => by rw [g.hD] at z; cases z) (g.ra.append (.cons r .nil))
end
end EV
set_option Elab.async false
set_option linter.all false
set_option maxRecDepth 100000
set_option maxHeartbeats 4000000
namespace EV
open PySem PySem.Spec PyProof.Rows L2
end EV
set_option Elab.async false
set_option linter.all false
set_option maxRecDepth 100000
set_option maxHeartbeats 4000000
namespace EV
open PySem PySem.Spec PyProof.Rows L2
end EV
set_option Elab.async false
set_option linter.all false
set_option maxRecDepth 100000
set_option maxHeartbeats 4000000
namespace EV
open PySem PySem.Spec PyProof.Rows L2
end EV
set_option Elab.async false
set_option linter.all false
set_option maxRecDepth 100000
set_option maxHeartbeats 4000000
namespace EV
open PySem PySem.Spec PyProof.Rows L2
/-- what a method does to a list: from its items and the others, the answer and the items then -/
abbrev LR1 := List D → List D → (D → List D → Prop) → Prop
def LMo (R : LR1) : Prop := ∀ xs ys k k', (∀ v zs, k v zs → k' v zs) → R xs ys k → R xs ys k'
def LLift (K : PySem.W.Frag) (R : LR1) (r : V → List V → Hp → VK → Prop) : Prop := ∀ (G H : Hp) (p : Addr) (vs us : List V) (xs ys : List D) (k : D → List D → Prop) (Q : VK), Sub G H → H p = some (.lst vs) → RpL K G vs xs → RpL K G us ys → R xs ys k →
  (∀ v d ws zs, Rp K G v d → RpL K G ws zs → k d zs → Q v (upd H p (.lst ws))) → r (.ref p) us H Q
structure LMet (X : Cx) (nm : Str) (id : String) (R : LR1) : Prop where
  slot : Slot "list" nm id
  ty : typeOf (.builtin id) = pure (.type "method_descriptor")
  mo : LMo R
  run : ∃ r, MtR X id r ∧ LLift X.K R r
def appR : LR1 := fun xs ys k => ∃ y, ys = [y] ∧ xs.length < sizeLine ∧ k .non (xs ++ [y])
def extR : LR1 := fun xs ys k => ∃ zs, ys = [.lst zs] ∧ xs.length + zs.length ≤ sizeLine ∧ k .non (xs ++ zs)
theorem lm_app {X : Cx} : LMet X "append" "list.append" appR := ⟨PySem.F.slot_list_append, PySem.F.type_list_append, fun xs ys k k' h ⟨y, e, z, q⟩ => ⟨y, e, z, h _ _ q⟩, rAppend, mt_append, fun G H p vs us xs ys k Q s hp rv ru h q => by
  obtain ⟨y, rfl, z, h⟩ := h
  cases ru with
  | cons r1 t => cases t; exact ⟨p, vs, _, rfl, rfl, hp, by rw [rv.length]; exact z, q _ _ _ _ .non (rv.append (.cons r1 .nil)) h⟩⟩
abbrev dLM (R : LR1) (ma : DE) (mA : DA) : DE := fun ρ O Q E => ma ρ O (fun x O1 => ∃ p xs0, x = .opq (.ref p) ∧ O1 p = some (.lst xs0) ∧ mA ρ O1 (fun ys O2 => ∃ xs, O2 p = some (.lst xs) ∧ R xs ys fun v zs => Q v (oset O2 p (.lst zs))) E) E
section
variable {X : Cx} {L : Pl} {a b : Expr} {es : List Expr} {ma : DE} {mA : DA} {apos cpos : Pos} {nm : Str} {id : String} {R : LR1}
theorem d_lm (M : LMet X nm id R) (ha : DPE X L a ma) (hA : DPA X L (b :: es) mA) (hbase : attributeBase a nm X.env (eval a X.env) = eval a X.env)
    (hfew : ((backTo cpos (starEach (b :: es) X.env)).all (fun x => !x.1) && (backToKw cpos (keywordEach [] X.env)).all (fun x => x.1.isSome)
      && decide ((b :: es).length + ([] : List Keyword).length + (if ([] : List Keyword).isEmpty then 0 else 1) < 30)) = true)
    (hline : (apos.endLine == cpos.line) = true) (hs : starEach (b :: es) X.env = (false, eval b X.env) :: starEach es X.env) (hplain : (backTo cpos (starEach es X.env)).any (·.1) = false) :
    DPE X L (.Call (.Attribute a nm apos) (b :: es) [] cpos) (dLM R ma mA) := by
  obtain ⟨r, hm, hl⟩ := M.run
  refine ⟨fun ρ O Q Q' E E' q hx x => ha.mo ρ _ _ _ _ _ (fun _ _ ⟨p, xs0, e, o, z⟩ => ⟨p, xs0, e, o, hA.mo ρ _ _ _ _ _ (fun _ _ ⟨xs, o2, y⟩ => ⟨xs, o2, M.mo _ _ _ _ (fun _ _ w => q _ _ w) y⟩) hx z⟩) hx x,
    pe_imp (pe_bm PySem.F.plainAttrs_list M.slot M.ty hm ha.run hA.run hbase hfew hline hs hplain) fun σ H Q ⟨G, O, ρ, g, rs, q⟩ => ?_⟩
  refine up_of ha.mo g rs q fun x vx O1 G1 H1 q1 s1 r1 => ?_
  obtain ⟨p, xs0, rfl, e0, q1⟩ := q1
  cases r1
  obtain ⟨nG0, nb0, vs0, hp0, _⟩ := s1.good.own p _ e0
  refine ⟨.inl ⟨rfl, vs0, SqL.of hp0⟩, ?_⟩
  refine upA_of hA.mo s1.good (rs.step s1) (mo_step hA.mo s1 q1) fun ys us O2 G2 H2 q2 s2 r2 => ?_
  obtain ⟨xs, e2, q2⟩ := q2
  obtain ⟨nG, nb, vs, hp, rl⟩ := s2.good.own p _ e2
  refine hl G2 H2 p vs us xs ys _ Q s2.good.sub hp rl r2 q2 fun v d ws zs rd rz k => ?_
  have st := Step.put (o := .lst ws) (d := .lst zs) s2.good nG nb ⟨_, upd_same, rz⟩ (.inl (by rw [e2]; exact Option.some_ne_none _))
  exact k v _ _ ((s1.trans s2).trans st) rd
end
end EV
set_option Elab.async false
set_option linter.all false
set_option maxRecDepth 100000
set_option maxHeartbeats 4000000
namespace EV
open PySem PySem.Spec PyProof.Rows L2
def leT (a b : Str) : Bool := decide (a.cps.toList ≤ b.cps.toList)
def srtS (xs : List Str) : List Str := xs.mergeSort leT
end EV
set_option Elab.async false
set_option linter.all false
set_option maxRecDepth 100000
set_option maxHeartbeats 4000000
namespace EV
open PySem PySem.Spec PyProof.Rows L2
section
variable {X : Cx} {L : Pl} {e a tg : Expr} {es : List Expr} {m : DE} {mA : DA} {pos p apos cpos : Pos} {B : Bo}
theorem RpK.get {K : PySem.W.Frag} {G : Hp} : ∀ {fs : List (Key × V)} {ds : List (Key × D)} {i : Nat} {kd : Key × D}, RpK K G fs ds → ds[i]? = some kd → ∃ v, fs[i]? = some (kd.1, v) ∧ Rp K G v kd.2
  | _, _, _, _, .nil, e => by simp at e
  | _, _, 0, _, .cons r _, e => by simp at e; subst e; exact ⟨_, rfl, r⟩
  | _, _, i + 1, kd, .cons _ t, e => by
    obtain ⟨u, h1, h2⟩ := RpK.get (i := i) (kd := kd) t (by simpa using e)
    exact ⟨u, by simpa using h1, h2⟩
theorem RpK.fst {K : PySem.W.Frag} {G : Hp} : ∀ {fs : List (Key × V)} {ds : List (Key × D)}, RpK K G fs ds → fs.map (·.1) = ds.map (·.1)
  | _, _, .nil => rfl
  | _, _, .cons r t => by rw [List.map_cons, List.map_cons, RpK.fst t]
def sortSD : DC := fun O xs Q => match xs with
  | [x] => (match lk O x with
    | .lst ds => ∃ ss : List Str, ds = ss.map D.str ∧ ss.length < 64 ∧ Q (.lst ((srtS ss).map D.str))
    | .dic kds => ∃ ss : List Str, kds.map (·.1) = ss.map Sum.inr ∧ ss.length < 64 ∧ Q (.lst ((srtS ss).map D.str))
    | _ => False)
  | _ => False
end
end EV
set_option Elab.async false
set_option linter.all false
set_option maxRecDepth 100000
set_option maxHeartbeats 4000000
namespace EV
open PySem PySem.Spec PyProof.Rows L2
def dPairs : List (DE × DE) → Slots → Ow → (List (D × D) → Ow → Prop) → QX → Prop
  | [], _, O, Q, _ => Q [] O
  | m :: ms, ρ, O, Q, E => m.1 ρ O (fun x O1 => m.2 ρ O1 (fun y O2 => dPairs ms ρ O2 (fun ps O3 => Q ((x, y) :: ps) O3) E) E) E
end EV
set_option Elab.async false
set_option linter.all false
set_option maxRecDepth 100000
set_option maxHeartbeats 4000000
namespace EV
open PySem PySem.Spec PyProof.Rows L2
end EV
set_option Elab.async false
set_option linter.all false
set_option maxRecDepth 100000
set_option maxHeartbeats 4000000
namespace EV
open PySem PySem.Spec PyProof.Rows L2
section
variable {X : Cx} {B : Bo}
theorem op_inDT (hu : X.A.units + 65 < cLine) : OpR X (compareOp .In) (fun x y H Q => ∃ d ds, Dp X.K H x d ∧ Dp X.K H y (.tuple ds) ∧ SeqAt.shaped d = true ∧ SeqAt.shaped (.list ds) = true ∧ Q (.bl (ds.any fun z => PyData.eqv z d)) H) := by
  intro pins s σ H x y v u Q I rx ry h
  obtain ⟨d, ds, hd, he, sd, se, q⟩ := h
  obtain ⟨as, r1⟩ := Dp.reads I d x v hd rx
  obtain ⟨bs, r2⟩ := Dp.reads I (.tuple ds) y u he ry
  exact SeqAt.in_tuple_reads r2 r1 (SeqAt.canLay_of_shaped se) (SeqAt.canLay_of_shaped sd) (room_in_shaped sd hu) ⟨.bl _, H, I, rfl, q⟩
def inLTD : P2 := fun a y Q => ∃ xs, (y = .lst xs ∨ y = .tup xs) ∧ ∃ x ys, toP a = some x ∧ toPs xs = some ys ∧ SeqAt.shaped x = true ∧ SeqAt.shaped (.list ys) = true ∧ Q (.bl (ys.any fun z => PyData.eqv z x))
theorem od_inLT (hu : X.A.units + 65 < cLine) : OpD X B (compareOp .In) (pu inLTD) := by
  refine ⟨fun O x y Q Q' q ⟨xs, e, a, ys, h1, h2, h3, h4, z⟩ => ⟨xs, e, a, ys, h1, h2, h3, h4, q _ z⟩, _, (op_inD hu).or (op_inDT hu), fun O G H x y a b Q gd r1 r2 ⟨xs, e, p, ys, h1, h2, h3, h4, q⟩ => ?_⟩
  have d1 := Rp.dp gd.sub r1 h1
  rcases e with rfl | rfl
  · have d2 := Rp.dp gd.sub r2 (show toP (.lst xs) = some (.list ys) by rw [toP, h2]; rfl)
    exact .inl ⟨_, _, d1, d2, h3, h4, q _ _ _ (Step.refl gd) (.bl _)⟩
  · have d2 := Rp.dp gd.sub r2 (show toP (.tup xs) = some (.tuple ys) by rw [toP, h2]; rfl)
    exact .inr ⟨_, _, d1, d2, h3, h4, q _ _ _ (Step.refl gd) (.bl _)⟩
end
end EV
set_option Elab.async false
set_option linter.all false
set_option maxRecDepth 100000
set_option maxHeartbeats 4000000
namespace EV
open PySem PySem.Spec PyProof.Rows L2
end EV
set_option Elab.async false
set_option linter.all false
set_option maxRecDepth 100000
set_option maxHeartbeats 4000000
namespace EV
open PySem PySem.Spec PyProof.Rows L2
end EV
set_option Elab.async false
set_option linter.all false
set_option maxRecDepth 100000
set_option maxHeartbeats 4000000
namespace EV
open PySem PySem.Spec PyProof.Rows L2
end EV
set_option Elab.async false
set_option linter.all false
set_option maxRecDepth 100000
set_option maxHeartbeats 4000000
namespace PySem
open Sem (wp)
end PySem
set_option Elab.async false
set_option linter.all false
set_option maxRecDepth 100000
set_option maxHeartbeats 4000000
namespace PySem
open Sem (wp)
end PySem
set_option Elab.async false
set_option linter.all false
set_option maxRecDepth 100000
set_option maxHeartbeats 4000000
namespace EV
open PySem PySem.Spec PyProof.Rows L2
end EV
set_option Elab.async false
set_option linter.all false
set_option maxRecDepth 100000
set_option maxHeartbeats 4000000
namespace EV
open PySem PySem.Spec PyProof.Rows L2
end EV
set_option Elab.async false
set_option linter.all false
set_option maxRecDepth 100000
set_option maxHeartbeats 4000000
namespace EV
open PySem PySem.Spec PyProof.Rows L2
def isOwnD (C : Addr) : PC := fun xs Q => match xs with
  | [x, .opq (.ref C')] => C' = C ∧ ((∃ fs, x = .ins C fs ∧ Q (.bl true)) ∨ ((tyD x).isSome = true ∧ Q (.bl false)))
  | _ => False
end EV
set_option Elab.async false
set_option linter.all false
set_option maxRecDepth 100000
set_option maxHeartbeats 4000000
namespace EV
open PySem PySem.Spec PyProof.Rows L2
mutual
def nz : D → Bool
  | .non => true
  | .int _ => true
  | .str x => PyData.strOk x
  | .lst xs => nzs xs
  | .tup xs => nzs xs
  | _ => false
def nzs : List D → Bool
  | [] => true
  | x :: xs => nz x && nzs xs
end
mutual
def dp : D → Nat
  | .lst xs => dps xs + 1
  | .tup xs => dps xs + 1
  | _ => 0
def dps : List D → Nat
  | [] => 0
  | x :: xs => max (dp x) (dps xs)
end
mutual
theorem toP_nz : ∀ {d : D}, nz d = true → ∃ x, toP d = some x ∧ x.canLay0 = true ∧ x.depth = dp d
  | .non, _ => ⟨_, rfl, rfl, rfl⟩
  | .int _, _ => ⟨_, rfl, rfl, rfl⟩
  | .str x, h => ⟨_, rfl, h, rfl⟩
  | .lst xs, h => by
    obtain ⟨ys, e, l, d⟩ := toPs_nz (ds := xs) (by simpa [nz] using h)
    exact ⟨.list ys, by rw [toP, e]; rfl, by simpa [PyData.canLay0] using l, by rw [PyData.depth, dp, d]⟩
  | .tup xs, h => by
    obtain ⟨ys, e, l, d⟩ := toPs_nz (ds := xs) (by simpa [nz] using h)
    exact ⟨.tuple ys, by rw [toP, e]; rfl, by simpa [PyData.canLay0] using l, by rw [PyData.depth, dp, d]⟩
theorem toPs_nz : ∀ {ds : List D}, nzs ds = true → ∃ ys, toPs ds = some ys ∧ PyData.canLayAll0 ys = true ∧ PyData.depthAll ys = dps ds
  | [], _ => ⟨[], rfl, rfl, rfl⟩
  | d :: ds, h => by
    rw [nzs, Bool.and_eq_true] at h
    obtain ⟨x, e1, l1, d1⟩ := toP_nz (d := d) h.1
    obtain ⟨ys, e2, l2, d2⟩ := toPs_nz (ds := ds) h.2
    exact ⟨x :: ys, by rw [toPs, e1, e2], by rw [PyData.canLayAll0, l1, l2]; rfl, by rw [PyData.depthAll, dps, d1, d2]⟩
end
mutual
theorem eqv_nz : ∀ {a b : D} {x y : PyData}, nz a = true → nz b = true → toP a = some x → toP b = some y → (PyData.eqv x y = true ↔ a = b)
  | .lst xs, .lst ys, _, _, ha, hb, e1, e2 => by
    simp only [toP, Option.map_eq_some_iff] at e1 e2
    obtain ⟨us, e1, rfl⟩ := e1
    obtain ⟨vs, e2, rfl⟩ := e2
    rw [PyData.eqv, eqvs_nz (by simpa [nz] using ha) (by simpa [nz] using hb) e1 e2]
    exact ⟨fun h => by rw [h], fun h => by cases h; rfl⟩
  | .tup xs, .tup ys, _, _, ha, hb, e1, e2 => by
    simp only [toP, Option.map_eq_some_iff] at e1 e2
    obtain ⟨us, e1, rfl⟩ := e1
    obtain ⟨vs, e2, rfl⟩ := e2
    rw [PyData.eqv, eqvs_nz (by simpa [nz] using ha) (by simpa [nz] using hb) e1 e2]
    exact ⟨fun h => by rw [h], fun h => by cases h; rfl⟩
  | .non, b, _, _, ha, hb, e1, e2 => by
    cases b <;> simp [nz, toP] at hb e1 e2 <;> first | (subst e1; subst e2; simp [PyData.eqv]) | (subst e1; obtain ⟨_, _, rfl⟩ := e2; simp [PyData.eqv])
  | .int i, b, _, _, ha, hb, e1, e2 => by
    cases b <;> simp [nz, toP] at hb e1 e2 <;> first | (subst e1; subst e2; simp [PyData.eqv]) | (subst e1; obtain ⟨_, _, rfl⟩ := e2; simp [PyData.eqv])
  | .str i, b, _, _, ha, hb, e1, e2 => by
    cases b <;> simp [nz, toP] at hb e1 e2 <;> first | (subst e1; subst e2; simp [PyData.eqv]) | (subst e1; obtain ⟨_, _, rfl⟩ := e2; simp [PyData.eqv])
  | .lst xs, .non, _, _, ha, hb, e1, e2 => by simp [toP] at e1 e2; obtain ⟨_, _, rfl⟩ := e1; subst e2; simp [PyData.eqv]
  | .lst xs, .int _, _, _, ha, hb, e1, e2 => by simp [toP] at e1 e2; obtain ⟨_, _, rfl⟩ := e1; subst e2; simp [PyData.eqv]
  | .lst xs, .str _, _, _, ha, hb, e1, e2 => by simp [toP] at e1 e2; obtain ⟨_, _, rfl⟩ := e1; subst e2; simp [PyData.eqv]
  | .lst xs, .tup _, _, _, ha, hb, e1, e2 => by simp [toP] at e1 e2; obtain ⟨_, _, rfl⟩ := e1; obtain ⟨_, _, rfl⟩ := e2; simp [PyData.eqv]
  | .tup xs, .non, _, _, ha, hb, e1, e2 => by simp [toP] at e1 e2; obtain ⟨_, _, rfl⟩ := e1; subst e2; simp [PyData.eqv]
  | .tup xs, .int _, _, _, ha, hb, e1, e2 => by simp [toP] at e1 e2; obtain ⟨_, _, rfl⟩ := e1; subst e2; simp [PyData.eqv]
  | .tup xs, .str _, _, _, ha, hb, e1, e2 => by simp [toP] at e1 e2; obtain ⟨_, _, rfl⟩ := e1; subst e2; simp [PyData.eqv]
  | .tup xs, .lst _, _, _, ha, hb, e1, e2 => by simp [toP] at e1 e2; obtain ⟨_, _, rfl⟩ := e1; obtain ⟨_, _, rfl⟩ := e2; simp [PyData.eqv]
  | .bl _, _, _, _, ha, _, _, _ => by simp [nz] at ha
  | .opq _, _, _, _, ha, _, _, _ => by simp [nz] at ha
  | .dic _, _, _, _, ha, _, _, _ => by simp [nz] at ha
  | .ins _ _, _, _, _, ha, _, _, _ => by simp [nz] at ha
  | .exc _ _, _, _, _, ha, _, _, _ => by simp [nz] at ha
  | .lam _, _, _, _, ha, _, _, _ => by simp [nz] at ha
  | .nk _ _ _, _, _, _, ha, _, _, _ => by simp [nz] at ha
  | .lst _, .bl _, _, _, _, hb, _, _ => by simp [nz] at hb
  | .lst _, .opq _, _, _, _, hb, _, _ => by simp [nz] at hb
  | .lst _, .dic _, _, _, _, hb, _, _ => by simp [nz] at hb
  | .lst _, .ins _ _, _, _, _, hb, _, _ => by simp [nz] at hb
  | .lst _, .exc _ _, _, _, _, hb, _, _ => by simp [nz] at hb
  | .lst _, .lam _, _, _, _, hb, _, _ => by simp [nz] at hb
  | .lst _, .nk _ _ _, _, _, _, hb, _, _ => by simp [nz] at hb
  | .tup _, .bl _, _, _, _, hb, _, _ => by simp [nz] at hb
  | .tup _, .opq _, _, _, _, hb, _, _ => by simp [nz] at hb
  | .tup _, .dic _, _, _, _, hb, _, _ => by simp [nz] at hb
  | .tup _, .ins _ _, _, _, _, hb, _, _ => by simp [nz] at hb
  | .tup _, .exc _ _, _, _, _, hb, _, _ => by simp [nz] at hb
  | .tup _, .lam _, _, _, _, hb, _, _ => by simp [nz] at hb
  | .tup _, .nk _ _ _, _, _, _, hb, _, _ => by simp [nz] at hb
theorem eqvs_nz : ∀ {as bs : List D} {xs ys : List PyData}, nzs as = true → nzs bs = true → toPs as = some xs → toPs bs = some ys → (PyData.eqvAll xs ys = true ↔ as = bs)
  | [], [], _, _, _, _, e1, e2 => by cases e1; cases e2; simp [PyData.eqvAll]
  | [], b :: bs, _, _, _, hb, e1, e2 => by
    rw [nzs, Bool.and_eq_true] at hb
    obtain ⟨y, f1, _⟩ := toP_nz hb.1
    obtain ⟨ys, f2, _⟩ := toPs_nz hb.2
    rw [toPs, f1, f2] at e2
    cases e1; cases e2; simp [PyData.eqvAll]
  | a :: as, [], _, _, ha, _, e1, e2 => by
    rw [nzs, Bool.and_eq_true] at ha
    obtain ⟨y, f1, _⟩ := toP_nz ha.1
    obtain ⟨ys, f2, _⟩ := toPs_nz ha.2
    rw [toPs, f1, f2] at e1
    cases e1; cases e2; simp [PyData.eqvAll]
  | a :: as, b :: bs, _, _, ha, hb, e1, e2 => by
    rw [nzs, Bool.and_eq_true] at ha hb
    obtain ⟨x, f1, _⟩ := toP_nz ha.1
    obtain ⟨xs, f2, _⟩ := toPs_nz ha.2
    obtain ⟨y, g1, _⟩ := toP_nz hb.1
    obtain ⟨ys, g2, _⟩ := toPs_nz hb.2
    rw [toPs, f1, f2] at e1
    rw [toPs, g1, g2] at e2
    cases e1; cases e2
    rw [PyData.eqvAll, Bool.and_eq_true, eqv_nz ha.1 hb.1 f1 g1, eqvs_nz ha.2 hb.2 f2 g2]
    exact ⟨fun h => by rw [h.1, h.2], fun h => by cases h; exact ⟨rfl, rfl⟩⟩
end
theorem shp_nz {d : D} {x : PyData} (h : nz d = true) (hd : dp d ≤ 64) (e : toP d = some x) : SeqAt.shaped x = true := by
  obtain ⟨y, e2, l, k⟩ := toP_nz h
  rw [e] at e2; cases e2
  unfold SeqAt.shaped
  rw [l, k, decide_eq_true hd]; rfl
theorem nzs_all {ds : List D} : nzs ds = true ↔ ∀ d ∈ ds, nz d = true := by
  induction ds with
  | nil => simp [nzs]
  | cons d ds ih => rw [nzs, Bool.and_eq_true, ih]; simp
theorem dps_le {ds : List D} {k : Nat} : dps ds ≤ k ↔ ∀ d ∈ ds, dp d ≤ k := by
  induction ds with
  | nil => simp [dps]
  | cons d ds ih => rw [dps, Nat.max_le, ih]; simp
end EV
set_option Elab.async false
set_option linter.all false
set_option maxRecDepth 100000
set_option maxHeartbeats 4000000
namespace EV
open PySem PySem.Spec PyProof.Rows L2
section
variable {ρ ρ' : Slots} {O O1 : Ow} {Q : QD} {E : QX} {p q : Addr} {d : D}
theorem go_var {i : Nat} (e : ρ[i]? = some (.sh d)) (h : Q d O) : dVar i ρ O Q E := by unfold dVar; rw [e]; exact h
theorem go_varF {i : Nat} (e : ρ[i]? = some (.sh (.opq (.ref p)))) (e2 : O p = some d) (h : Q d (odel O p)) : dVarF i ρ O Q E := by unfold dVarF; rw [e]; exact ⟨d, e2, h⟩
theorem go_fld {C : Addr} {f : Str} {fs : List (Str × D)} {Q : D → Prop} (e : fs.lookup f = some d) (h : Q d) : fldD C f (.ins C fs) Q := by unfold fldD; refine ⟨rfl, ?_⟩; rw [e]; exact h
theorem go_fldH {C : Addr} {f : Str} {fs : List (Str × D)} {Q : D → Prop} (e : O p = some (.ins C fs)) (e2 : fs.lookup f = some d) (h : Q d) : fldD C f (lk O (.opq (.ref p))) Q := by rw [lk_of e]; exact go_fld e2 h
theorem go_ixL {xs : List D} {k : Int} {Q : D → Prop} (e : atI xs k = some d) (h : Q d) : ixP (.lst xs) (.int k) Q := by unfold ixP; simp only [e]; exact h
theorem go_ixT {xs : List D} {k : Int} {Q : D → Prop} (e : atI xs k = some d) (h : Q d) : ixP (.tup xs) (.int k) Q := by unfold ixP; simp only [e]; exact h
theorem go_ixH {xs : List D} {k : Int} {Q : D → Prop} (e : O p = some (.lst xs)) (e2 : atI xs k = some d) (h : Q d) : ixP (lk O (.opq (.ref p))) (.int k) Q := by rw [lk_of e]; exact go_ixL e2 h
theorem go_bcT {P R : Prop} {c : Bool} (e : c = true) (h : P) : bc c P R := by subst e; exact h
theorem go_bcF {P R : Prop} {c : Bool} (e : c = false) (h : R) : bc c P R := by subst e; exact h
theorem go_set {i : Nat} {Q : Slots → Prop} (e : ρ.set i (.sh d) = ρ') (h : Q ρ') : dgName i d ρ Q := by subst e; exact h
theorem go_methH {C : Addr} {f : Str} {fs : List (Str × D)} {R : Prop} (e : O p = some (.ins C fs)) (e2 : fs.lookup f = none) (h : R) : (match lk O (.opq (.ref p)) with
  | .ins C' fs => C' = C ∧ fs.lookup f = none
  | _ => False) ∧ R := by rw [lk_of e]; exact ⟨⟨rfl, e2⟩, h⟩
theorem go_lm {xs : List D} {R : Addr → List D → Prop} (e : O p = some (.lst xs)) (h : R p xs) : ∃ p' xs0, D.opq (.ref p) = .opq (.ref p') ∧ O p' = some (.lst xs0) ∧ R p' xs0 := ⟨p, xs, rfl, e, h⟩
theorem go_lm2 {xs : List D} {R : List D → Prop} (e : O p = some (.lst xs)) (h : R xs) : ∃ xs0, O p = some (.lst xs0) ∧ R xs0 := ⟨xs, e, h⟩
theorem go_app {xs : List D} {k : D → List D → Prop} (h : xs.length < sizeLine) (q : k .non (xs ++ [d])) : appR xs [d] k := ⟨d, rfl, h, q⟩
theorem go_ext {xs zs : List D} {k : D → List D → Prop} (h : xs.length + zs.length ≤ sizeLine) (q : k .non (xs ++ zs)) : extR xs [.lst zs] k := ⟨zs, rfl, h, q⟩
theorem go_setF {C : Addr} {R : List (Str × D) → Prop} {fs : List (Str × D)} (e : O p = some (.ins C fs)) (h : R fs) : ∃ fs', O p = some (.ins C fs') ∧ R fs' := ⟨fs, e, h⟩
theorem szk' {n : Nat} (h : n ≤ 1000) : n ≤ sizeLine := Nat.le_trans h (by decide)
theorem szR {n : Nat} (h : Nat.ble n sizeLine = true) : n ≤ sizeLine := Nat.le_of_ble_eq_true h
theorem szlt {n : Nat} (h : Nat.blt n sizeLine = true) : n < sizeLine := of_decide_eq_true (by simpa [Nat.blt_eq] using h)
theorem szl {n : Nat} (h : n < 1000) : n < sizeLine := Nat.lt_of_lt_of_le h (by decide)
theorem ga0 {x0 : D} {xs : List D} : atI (x0 :: xs) 0 = some x0 := (show atI _ ((0 : Nat) : Int) = _ from atI_nat rfl)
theorem ga1 {x0 x1 : D} {xs : List D} : atI (x0 :: x1 :: xs) 1 = some x1 := (show atI _ ((1 : Nat) : Int) = _ from atI_nat rfl)
theorem ga2 {x0 x1 x2 : D} {xs : List D} : atI (x0 :: x1 :: x2 :: xs) 2 = some x2 := (show atI _ ((2 : Nat) : Int) = _ from atI_nat rfl)
theorem ga3 {x0 x1 x2 x3 : D} {xs : List D} : atI (x0 :: x1 :: x2 :: x3 :: xs) 3 = some x3 := (show atI _ ((3 : Nat) : Int) = _ from atI_nat rfl)
theorem ga4 {x0 x1 x2 x3 x4 : D} {xs : List D} : atI (x0 :: x1 :: x2 :: x3 :: x4 :: xs) 4 = some x4 := (show atI _ ((4 : Nat) : Int) = _ from atI_nat rfl)
theorem ga5 {x0 x1 x2 x3 x4 x5 : D} {xs : List D} : atI (x0 :: x1 :: x2 :: x3 :: x4 :: x5 :: xs) 5 = some x5 := (show atI _ ((5 : Nat) : Int) = _ from atI_nat rfl)
theorem ga6 {x0 x1 x2 x3 x4 x5 x6 : D} {xs : List D} : atI (x0 :: x1 :: x2 :: x3 :: x4 :: x5 :: x6 :: xs) 6 = some x6 := (show atI _ ((6 : Nat) : Int) = _ from atI_nat rfl)
theorem ga7 {x0 x1 x2 x3 x4 x5 x6 x7 : D} {xs : List D} : atI (x0 :: x1 :: x2 :: x3 :: x4 :: x5 :: x6 :: x7 :: xs) 7 = some x7 := (show atI _ ((7 : Nat) : Int) = _ from atI_nat rfl)
theorem ga8 {x0 x1 x2 x3 x4 x5 x6 x7 x8 : D} {xs : List D} : atI (x0 :: x1 :: x2 :: x3 :: x4 :: x5 :: x6 :: x7 :: x8 :: xs) 8 = some x8 := (show atI _ ((8 : Nat) : Int) = _ from atI_nat rfl)
theorem ga9 {x0 x1 x2 x3 x4 x5 x6 x7 x8 x9 : D} {xs : List D} : atI (x0 :: x1 :: x2 :: x3 :: x4 :: x5 :: x6 :: x7 :: x8 :: x9 :: xs) 9 = some x9 := (show atI _ ((9 : Nat) : Int) = _ from atI_nat rfl)
theorem ga10 {x0 x1 x2 x3 x4 x5 x6 x7 x8 x9 x10 : D} {xs : List D} : atI (x0 :: x1 :: x2 :: x3 :: x4 :: x5 :: x6 :: x7 :: x8 :: x9 :: x10 :: xs) 10 = some x10 := (show atI _ ((10 : Nat) : Int) = _ from atI_nat rfl)
theorem ga11 {x0 x1 x2 x3 x4 x5 x6 x7 x8 x9 x10 x11 : D} {xs : List D} : atI (x0 :: x1 :: x2 :: x3 :: x4 :: x5 :: x6 :: x7 :: x8 :: x9 :: x10 :: x11 :: xs) 11 = some x11 := (show atI _ ((11 : Nat) : Int) = _ from atI_nat rfl)
theorem ga12 {x0 x1 x2 x3 x4 x5 x6 x7 x8 x9 x10 x11 x12 : D} {xs : List D} : atI (x0 :: x1 :: x2 :: x3 :: x4 :: x5 :: x6 :: x7 :: x8 :: x9 :: x10 :: x11 :: x12 :: xs) 12 = some x12 := (show atI _ ((12 : Nat) : Int) = _ from atI_nat rfl)
theorem ga13 {x0 x1 x2 x3 x4 x5 x6 x7 x8 x9 x10 x11 x12 x13 : D} {xs : List D} : atI (x0 :: x1 :: x2 :: x3 :: x4 :: x5 :: x6 :: x7 :: x8 :: x9 :: x10 :: x11 :: x12 :: x13 :: xs) 13 = some x13 := (show atI _ ((13 : Nat) : Int) = _ from atI_nat rfl)
theorem ga14 {x0 x1 x2 x3 x4 x5 x6 x7 x8 x9 x10 x11 x12 x13 x14 : D} {xs : List D} : atI (x0 :: x1 :: x2 :: x3 :: x4 :: x5 :: x6 :: x7 :: x8 :: x9 :: x10 :: x11 :: x12 :: x13 :: x14 :: xs) 14 = some x14 := (show atI _ ((14 : Nat) : Int) = _ from atI_nat rfl)
theorem ga15 {x0 x1 x2 x3 x4 x5 x6 x7 x8 x9 x10 x11 x12 x13 x14 x15 : D} {xs : List D} : atI (x0 :: x1 :: x2 :: x3 :: x4 :: x5 :: x6 :: x7 :: x8 :: x9 :: x10 :: x11 :: x12 :: x13 :: x14 :: x15 :: xs) 15 = some x15 := (show atI _ ((15 : Nat) : Int) = _ from atI_nat rfl)
theorem oset_self : oset O p d p = some d := oset_same
theorem go_atK {kds : List (Key × D)} {k : Key} {o : Option D} {R : Option D → Prop} (e : valD kds k = o) (h : R o) : atDic (.dic kds) (kD k) R := ⟨k, rfl, by rw [e]; exact h⟩
theorem go_atS {kds : List (Key × D)} {x : Str} {o : Option D} {R : Option D → Prop} (e : valD kds (.inr x) = o) (h : R o) : atDic (.dic kds) (.str x) R := ⟨.inr x, rfl, by rw [e]; exact h⟩
theorem go_atI {kds : List (Key × D)} {x : Int} {o : Option D} {R : Option D → Prop} (e : valD kds (.inl x) = o) (h : R o) : atDic (.dic kds) (.int x) R := ⟨.inl x, rfl, by rw [e]; exact h⟩
theorem go_atHK {kds : List (Key × D)} {k : Key} {o : Option D} {R : Option D → Prop} (e0 : O p = some (.dic kds)) (e : valD kds k = o) (h : R o) : atDic (lk O (.opq (.ref p))) (kD k) R := by rw [lk_of e0]; exact go_atK e h
theorem go_atHS {kds : List (Key × D)} {x : Str} {o : Option D} {R : Option D → Prop} (e0 : O p = some (.dic kds)) (e : valD kds (.inr x) = o) (h : R o) : atDic (lk O (.opq (.ref p))) (.str x) R := by rw [lk_of e0]; exact go_atS e h
theorem go_dputS {kds : List (Key × D)} {x : Str} {R : List (Key × D) → Key → Prop} (e : O p = some (.dic kds)) (hl : kds.length < sizeLine) (h : R kds (.inr x)) : ∃ kds' k, O p = some (.dic kds') ∧ D.str x = kD k ∧ kds'.length < sizeLine ∧ R kds' k := ⟨kds, .inr x, e, rfl, hl, h⟩
theorem go_dputK {kds : List (Key × D)} {k : Key} {R : List (Key × D) → Key → Prop} (e : O p = some (.dic kds)) (hl : kds.length < sizeLine) (h : R kds k) : ∃ kds' k', O p = some (.dic kds') ∧ kD k = kD k' ∧ kds'.length < sizeLine ∧ R kds' k' := ⟨kds, k, e, rfl, hl, h⟩
theorem go_frz {x : D} {R : Addr → D → Prop} (e : O p = some x) (h : R p x) : ∃ p' x', D.opq (.ref p) = .opq (.ref p') ∧ O p' = some x' ∧ R p' x' := ⟨p, x, rfl, e, h⟩
theorem go_pnil {S : List (D × D) → Ow → Prop} (h : S [] O) : dPairs [] ρ O S E := h
theorem go_pcons {mk mv : DE} {ms : List (DE × DE)} {S : List (D × D) → Ow → Prop} (h : mk ρ O (fun a O1 => mv ρ O1 (fun b O2 => dPairs ms ρ O2 (fun ps O3 => S ((a, b) :: ps) O3) E) E) E) : dPairs ((mk, mv) :: ms) ρ O S E := h
variable {R : D → Prop} {xs ys : List D}
theorem go_eqI {f : Bool → Bool} {i j : Int} (h : R (.bl (f (decide (i = j))))) : eqD f (.int i) (.int j) R := h
theorem go_eqS {f : Bool → Bool} {i j : Str} (h : R (.bl (f (decide (i = j))))) : eqD f (.str i) (.str j) R := h
theorem go_eqB {f : Bool → Bool} {i j : Bool} (h : R (.bl (f (decide (i = j))))) : eqD f (.bl i) (.bl j) R := h
theorem go_neg {i : Int} (h : R (.int (-i))) : negD (.int i) R := h
theorem go_lenL (h : R (.int xs.length)) : lenO O [.lst xs] R := h
theorem go_lenT (h : R (.int xs.length)) : lenO O [.tup xs] R := h
theorem go_lenS {y : Str} (hl : y.length ≤ sizeLine) (h : R (.int y.length)) : lenO O [.str y] R := ⟨hl, h⟩
theorem go_lenH (e : O p = some (.lst xs)) (h : R (.int xs.length)) : lenO O [.opq (.ref p)] R := by unfold lenO; rw [List.map_cons, lk_of e]; exact h
theorem go_tupL (h : R (.tup xs)) : tupO O [.lst xs] R := h
theorem go_tupT (h : R (.tup xs)) : tupO O [.tup xs] R := h
theorem go_tupH (e : O p = some (.lst xs)) (h : R (.tup xs)) : tupO O [.opq (.ref p)] R := by unfold tupO; rw [List.map_cons, lk_of e]; exact h
theorem go_listL (h : R (.lst xs)) : listO O [.lst xs] R := h
theorem go_listT (h : R (.lst xs)) : listO O [.tup xs] R := h
theorem go_listH (e : O p = some (.lst xs)) (h : R (.lst xs)) : listO O [.opq (.ref p)] R := by unfold listO; rw [List.map_cons, lk_of e]; exact h
theorem go_all {α : Type} {l : List α} {f : α → Bool} (h : R (.bl (l.all f))) : allD [.lst (l.map fun x => .bl (f x))] R := allD_of (toBs_map f l) (by rw [List.all_map]; exact h)
theorem go_any {α : Type} {l : List α} {f : α → Bool} (h : R (.bl (l.any f))) : anyD [.lst (l.map fun x => .bl (f x))] R := anyD_of (toBs_map f l) (by rw [List.any_map]; exact h)
theorem go_isi {d : D} {n : String} {b : Bool} (e1 : kn n = true) (e2 : (tyD d).isSome = true) (e : isiB d n = b) (h : R (.bl b)) : isiD [d, .opq (.ty n)] R := ⟨e1, e2, by rw [e]; exact h⟩
theorem go_inS {f : Bool → Bool} {x : Str} {ss : List Str} (e : toSs xs = some ss) (h : R (.bl (f (ss.any fun z => decide (x = z))))) : inSD f (.str x) (.tup xs) R := by unfold inSD; dsimp only; rw [e]; exact h
theorem go_inSL {f : Bool → Bool} {x : Str} {ss : List Str} (e : toSs xs = some ss) (h : R (.bl (f (ss.any fun z => decide (x = z))))) : inSD f (.str x) (.lst xs) R := by unfold inSD; dsimp only; rw [e]; exact h
theorem go_sortS {ss : List Str} (hl : ss.length < 64) (h : R (.lst ((srtS ss).map D.str))) : sortSD O [.lst (ss.map D.str)] R := ⟨ss, rfl, hl, h⟩
theorem go_own {C : Addr} {fs : List (Str × D)} (h : R (.bl true)) : isOwnD C [.ins C fs, .opq (.ref C)] R := ⟨rfl, .inl ⟨fs, rfl, h⟩⟩
theorem go_st {s rest : DS} {A : DEnds} (h : ∀ N : Slots → Ow → Prop, N = (fun ρ O => rest A ρ O) → s { A with nx := N } ρ O) : dSeq s rest A ρ O := h _ rfl
theorem goN {N M : Slots → Ow → Prop} (e : N = M) (h : M ρ O) : N ρ O := e ▸ h
theorem go_for {g : DG} {b : DS} {A : DEnds} (xs : List D) (J : Nat → Slots → Ow → Prop) (j0 : J 0 ρ O) (step : ∀ i d, xs[i]? = some d → ∀ ρ O, J i ρ O → ∀ N : Slots → Ow → Prop, (∀ r O, J (i + 1) r O → N r O) → g d ρ fun ρ' => b { A with nx := N, ct := N, bk := A.nx } ρ' O) (k : ∀ r O, J xs.length r O → A.nx r O) : forW tt1 g b A xs ρ O :=
  forW_at xs J (fun _ _ _ _ => trivial) step k (i := 0) rfl (Nat.zero_le _) j0
theorem go_lc {g : DG} {te : DE} {Q : List D → Ow → Prop} {ds acc : List D} (f : D → D) (h : ∀ d ∈ ds, ∀ Qy : QD, Qy (f d) O → g d ρ fun ρ' => te ρ' O Qy fun _ _ => False) (hl : acc.length + ds.length ≤ sizeLine) (q : Q (acc ++ ds.map f) O) : lcW tt1 g dYes te ρ ds acc O Q := lcW_map trivial f h hl q
end
end EV
set_option Elab.async false
set_option linter.all false
set_option maxRecDepth 100000
set_option maxHeartbeats 4000000
namespace EV
open PySem PySem.Spec PyProof.Rows L2
section
variable {X : Cx} {L : Pl} {c : Expr} {mt : DT} {ms : DS} {pos : Pos}
/-- min of two whole numbers -/
def min2D : PC
  | [.int i, .int j], Q => Q (.int (if j < i then j else i))
  | _, _ => False
theorem cd_min2 {B : Bo} (hc : X.calm = true) : CallD X B (.builtin "min") (pc min2D) := by
  refine ⟨fun O x Q Q' q z => ?_, _, call_min2 hc, fun O G H vs ds Q g r h => ?_⟩
  · dsimp only [pc] at z ⊢; unfold min2D at z ⊢
    split at z
    · exact q _ z
    · exact z
  · dsimp only [pc] at h; unfold min2D at h
    split at h
    · cases r with
      | cons r1 r2 =>
        cases r1
        cases r2 with
        | cons r3 r4 =>
          cases r3
          cases r4
          exact ⟨_, _, rfl, h _ _ _ (Step.refl g) (.int _)⟩
    · exact h.elim
theorem go_min2 {i j : Int} {R : D → Prop} (h : R (.int (if j < i then j else i))) : min2D [.int i, .int j] R := h
end
end EV
set_option Elab.async false
set_option linter.all false
set_option maxRecDepth 100000
set_option maxHeartbeats 4000000
namespace PySem
open Sem (wp)
end PySem
set_option Elab.async false
set_option linter.all false
set_option maxRecDepth 100000
set_option maxHeartbeats 4000000
namespace EV
open PySem PySem.Spec PyProof.Rows L2
end EV
set_option Elab.async false
set_option linter.all false
set_option maxRecDepth 100000
set_option maxHeartbeats 4000000
namespace EV
open PySem PySem.Spec PyProof.Rows L2
end EV
set_option Elab.async false
set_option linter.all false
set_option maxRecDepth 100000
set_option maxHeartbeats 4000000
namespace EV
open PySem PySem.Spec PyProof.Rows L2
end EV
set_option Elab.async false
set_option linter.all false
set_option maxRecDepth 100000
set_option maxHeartbeats 4000000
namespace EV
open PySem PySem.Spec PyProof.Rows L2
end EV
set_option Elab.async false
set_option linter.all false
set_option maxRecDepth 100000
set_option maxHeartbeats 4000000
namespace EV
open PySem PySem.Spec PyProof.Rows L2
end EV
set_option Elab.async false
set_option linter.all false
set_option maxRecDepth 100000
set_option maxHeartbeats 4000000
namespace EV
open PySem PySem.Spec PyProof.Rows L2
section
variable {ρ : Slots} {O : Ow} {Q : QD} {E : QX} {R : D → Prop} {xs ys : List D}
theorem go_slL {lo hi : Option Int} (e : cutD xs lo hi = ys) (h : R (.lst ys)) : slD (.lst xs) lo hi R := by subst e; exact h
theorem go_lcNil {I : Ow → Prop} {g : DG} {tt : DT} {te : DE} {acc : List D} {Q : List D → Ow → Prop} (hI : I O) (h : Q acc O) : lcW I g tt te ρ [] acc O Q := ⟨hI, h⟩
theorem go_lcCons {I : Ow → Prop} {g : DG} {tt : DT} {te : DE} {d : D} {ds acc : List D} {Q : List D → Ow → Prop} (h : I O ∧ g d ρ fun ρ' => tt ρ' O (fun c O1 => bc c (te ρ' O1 (fun y O2 => acc.length < sizeLine ∧ lcW I g tt te ρ ds (acc ++ [y]) O2 Q) (fun _ _ => False)) (lcW I g tt te ρ ds acc O1 Q)) (fun _ _ => False)) : lcW I g tt te ρ (d :: ds) acc O Q := h
abbrev natD (t : Nat) : D := .int (t : Int)
end
end EV
set_option Elab.async false
set_option linter.all false
set_option maxRecDepth 100000
set_option maxHeartbeats 4000000
namespace EV
open PySem PySem.Spec PyProof.Rows L2
section
variable {X : Cx} {L : Pl} {e : Expr} {m : DE} {pos : Pos}
def fmtD (x : D) (R : Str → Prop) : Prop := (∃ y : Str, x = .str y ∧ y.length ≤ sizeLine ∧ R y) ∨ ∃ i : Int, x = .int i ∧ i.natAbs.log2 < 1920 ∧ R (toString i)
theorem fmtD_mo {x : D} {R R' : Str → Prop} (h : ∀ y, R y → R' y) : fmtD x R → fmtD x R' := fun z => z.imp (fun ⟨y, a, b, c⟩ => ⟨y, a, b, h _ c⟩) fun ⟨i, a, b, c⟩ => ⟨i, a, b, h _ c⟩
def jsD (acc : Str) (x : D) (R : Str → Prop) : Prop := ∃ y : Str, x = .str y ∧ (acc ++ y).length ≤ sizeLine ∧ R (acc ++ y)
theorem jsD_mo {acc : Str} {x : D} {R R' : Str → Prop} (h : ∀ y, R y → R' y) : jsD acc x R → jsD acc x R' := fun ⟨y, a, b, c⟩ => ⟨y, a, b, h _ c⟩
def dJs : List DE → Str → DE
  | [], acc => fun _ O Q _ => Q (.str acc) O
  | m :: ms, acc => fun ρ O Q E => m ρ O (fun x O1 => jsD acc x fun a => dJs ms a ρ O1 Q E) E
inductive DJ (X : Cx) (L : Pl) : List Expr → List DE → Prop where
  | nil : DJ X L [] []
  | cons {e : Expr} {m : DE} {es : List Expr} {ms : List DE} (h : DPE X L e m) (r : DJ X L es ms) : DJ X L (e :: es) (m :: ms)
theorem DJ.mo {es : List Expr} {ms : List DE} (h : DJ X L es ms) : ∀ acc, Mo (dJs ms acc) := by
  induction h with
  | nil => exact fun acc ρ O Q Q' E E' q hx x => q _ _ x
  | cons h r ih => exact fun acc ρ O Q Q' E E' q hx x => h.mo ρ _ _ _ _ _ (fun d O1 z => jsD_mo (fun a y => ih a _ _ _ _ _ _ q hx y) z) hx x
theorem go_fmtS {y : Str} {R : Str → Prop} (hl : y.length ≤ sizeLine) (h : R y) : fmtD (.str y) R := .inl ⟨y, rfl, hl, h⟩
theorem go_fmtI {i : Int} {R : Str → Prop} (hl : i.natAbs.log2 < 1920) (h : R (toString i)) : fmtD (.int i) R := .inr ⟨i, rfl, hl, h⟩
end
end EV
set_option Elab.async false
set_option linter.all false
set_option maxRecDepth 100000
set_option maxHeartbeats 4000000
namespace EV
open PySem PySem.Spec PyProof.Rows L2
section
variable {X : Cx} {B : Bo}
def strD : PC := fun xs Q => match xs with
  | [x] => fmtD x fun y => Q (.str y)
  | _ => False
theorem call_str2 : CallR X (.type "str") (fun xs H Q => (∃ a, xs = [.str a] ∧ Q (.str a) H) ∨ ∃ i, xs = [.int i] ∧ i.natAbs.log2 < 1920 ∧ Q (.str (toString i)) H) := by
  intro pins s σ H xs us Q I r h
  rcases h with h | h
  · exact SkE.call_str_str pins s σ H xs us Q I r h
  · exact call_str_int pins s σ H xs us Q I r h
theorem cd_str : CallD X B (.type "str") (pc strD) := by
  refine ⟨fun O x Q Q' q z => ?_, _, call_str2, fun O G H vs ds Q g r h => ?_⟩
  · dsimp only [pc] at z ⊢; unfold strD at z ⊢
    split at z
    · exact fmtD_mo (fun _ => q _) z
    · exact z
  · dsimp only [pc] at h; unfold strD at h
    split at h
    · cases r with | cons r1 r2 =>
      cases r2
      rcases h with ⟨y, rfl, hl, h⟩ | ⟨i, rfl, hl, h⟩
      · cases r1; exact .inl ⟨_, rfl, h _ _ _ (Step.refl g) (.str _)⟩
      · cases r1; exact .inr ⟨_, rfl, hl, h _ _ _ (Step.refl g) (.str _)⟩
    · exact h.elim
variable {R : D → Prop}
theorem go_strS {y : Str} (hl : y.length ≤ sizeLine) (h : R (.str y)) : strD [.str y] R := go_fmtS hl h
theorem go_strI {i : Int} (hl : i.natAbs.log2 < 1920) (h : R (.str (toString i))) : strD [.int i] R := go_fmtI hl h
end
end EV
set_option Elab.async false
set_option linter.all false
set_option maxRecDepth 100000
set_option maxHeartbeats 4000000
namespace EV
open PySem PySem.Spec PyProof.Rows L2
end EV
set_option Elab.async false
set_option linter.all false
set_option maxRecDepth 100000
set_option maxHeartbeats 4000000
namespace EV
open PySem PySem.Spec PyProof.Rows L2
mutual
def noL : D → Bool
  | .non => true
  | .bl _ => true
  | .int _ => true
  | .str _ => true
  | .opq _ => true
  | .lst _ => false
  | .tup ds => noLs ds
  | .dic ks => noLk ks
  | .ins _ fs => noLf fs
  | .exc _ _ => false
  | .lam _ => false
  | .nk _ _ _ => false
def noLs : List D → Bool
  | [] => true
  | d :: r => noL d && noLs r
def noLk : List (Key × D) → Bool
  | [] => true
  | (_, d) :: r => noL d && noLk r
def noLf : List (Str × D) → Bool
  | [] => true
  | (_, d) :: r => noL d && noLf r
end
theorem noLs_of : ∀ {xs : List D}, (∀ x ∈ xs, noL x = true) → noLs xs = true
  | [], _ => by rw [noLs]
  | x :: r, h => by rw [noLs, h x (by simp), noLs_of fun y hy => h y (List.mem_cons_of_mem _ hy)]; rfl
end EV
set_option Elab.async false
set_option linter.all false
set_option maxRecDepth 100000
set_option maxHeartbeats 4000000
namespace EV
open PySem PySem.Spec PyProof.Rows L2
end EV
set_option Elab.async false
set_option linter.all false
set_option maxRecDepth 100000
set_option maxHeartbeats 4000000
namespace EV
open PySem PySem.Spec PyProof.Rows L2
section
variable {X : Cx} {L : Pl} {K : PySem.W.Frag} {B : Bo} {O O1 O' : Ow} {G H G' H' : Hp} {st : Stmt} {ms : DS}
theorem osub_none (h : OSub O1 O) {a : Addr} (e : O a = none) : O1 a = none := by
  cases z : O1 a with
  | none => rfl
  | some d => rw [h a d z] at e; cases e
theorem Step.more (s : Step K B O1 G H O' G' H') (h : OSub O1 O) : Step K B O G H O' G' H' :=
  ⟨s.grow, s.good, fun a o e n z => s.keep a o e n (osub_none h z), fun a o e g z => s.hid a o e g (osub_none h z), s.still⟩
end
end EV
set_option Elab.async false
set_option linter.all false
set_option maxRecDepth 100000
set_option maxHeartbeats 4000000
set_option pp.maxSteps 1200
namespace LW
open PySem PySem.Spec PyProof.Rows L2 EV PySem.XO PySem.W LamX
local macro_rules | `(tactic| walk_at "fd") => `(tactic| first | assumption | rfl)
local macro_rules | `(tactic| walk_at "ow") => `(tactic| first | assumption | exact oset_self | (rw [oset_ne (by assumption)]; walk_at "ow") | (rw [oset_ne (Ne.symm (by assumption))]; walk_at "ow"))
local macro_rules | `(tactic| walk_at "ix") => `(tactic| first | exact EV.ga0 | exact EV.ga1 | exact EV.ga2 | exact EV.ga3 | exact EV.ga4 | exact EV.ga5 | exact EV.ga6 | exact EV.ga7 | exact EV.ga8 | exact EV.ga9 | exact EV.ga10 | exact EV.ga11 | exact EV.ga12 | exact EV.ga13 | exact EV.ga14 | exact EV.ga15 | assumption | rfl)
local macro_rules | `(tactic| walk_at "sz") => `(tactic| first | exact trivial | (with_reducible assumption) | omega | ((with_reducible refine szR ?_); exact rfl) | ((with_reducible refine szk' ?_); omega) | ((with_reducible refine szl ?_); omega) | exact szlt rfl | rfl | exact ⟨rfl, by assumption⟩ | exact ⟨rfl, rfl⟩ | exact ⟨_, rfl⟩ | ((with_reducible refine szk' ?_); simp only [List.length_cons, List.length_nil, List.length_append, List.length_map]; omega) | (unfold CMul; omega) | (unfold CDiv; omega) | (unfold CPow; exact ⟨by omega, by omega, by omega⟩) | (constructor; · omega; · omega))
local macro_rules | `(tactic| walk_at "val") => `(tactic| first | assumption | exact rfl)
local macro_rules | `(tactic| walk_at "ty") => `(tactic| first | assumption | exact rfl)
local macro_rules | `(tactic| walk_at "bt") => `(tactic| first | exact rfl | assumption)
local macro_rules | `(tactic| walk_at "n") => `(tactic| refine st_norm (by simp only [List.set_cons_succ, List.set_cons_zero]; rfl) ?_)
local macro_rules | `(tactic| walk_at "wh") => `(tactic| with_reducible conv => whnf)
local macro_rules | `(tactic| walk_at "call") => `(tactic| fail)
local macro_rules | `(tactic| walk_at "go1") => `(tactic| first
  | ((with_reducible apply go_var); (· exact rfl))
  | ((with_reducible apply go_varF); (· exact rfl); (· walk_at "ow"))
  | ((with_reducible apply go_set); (· (simp only [wipeD, List.map_cons, List.map_nil, List.set_cons_succ, List.set_cons_zero]; rfl)))
  | ((with_reducible apply go_fld); (· walk_at "fd"))
  | ((with_reducible apply go_fldH); (· walk_at "ow"); (· walk_at "fd"))
  | ((with_reducible apply go_ixT); (· walk_at "ix"))
  | ((with_reducible apply go_ixL); (· walk_at "ix"))
  | ((with_reducible apply go_ixH); (· walk_at "ow"); (· walk_at "ix"))
  | ((with_reducible apply go_bcT); (· walk_at "bt"))
  | ((with_reducible apply go_bcF); (· walk_at "bt"))
  | ((with_reducible apply go_methH); (· walk_at "ow"); (· walk_at "fd"))
  | ((with_reducible apply And.intro); (· walk_at "sz"))
  | ((with_reducible apply go_lm); (· walk_at "ow"))
  | ((with_reducible apply go_lm2); (· walk_at "ow"))
  | ((with_reducible apply go_app); (· walk_at "sz"))
  | ((with_reducible apply go_ext); (· walk_at "sz"))
  | ((with_reducible apply go_setF); (· walk_at "ow"))
  | ((with_reducible apply go_frz); (· walk_at "ow"))
  | ((with_reducible apply go_atK); (· walk_at "val"))
  | ((with_reducible apply go_atS); (· walk_at "val"))
  | ((with_reducible apply go_atI); (· walk_at "val"))
  | ((with_reducible apply go_atHK); (· walk_at "ow"); (· walk_at "val"))
  | ((with_reducible apply go_atHS); (· walk_at "ow"); (· walk_at "val"))
  | ((with_reducible apply go_dputS); (· walk_at "ow"); (· walk_at "sz"))
  | ((with_reducible apply go_dputK); (· walk_at "ow"); (· walk_at "sz"))
  | (with_reducible apply go_eqI)
  | (with_reducible apply go_eqS)
  | (with_reducible apply go_eqB)
  | (with_reducible apply go_neg)
  | (with_reducible apply go_lenL)
  | (with_reducible apply go_lenT)
  | ((with_reducible apply go_lenS); (· walk_at "sz"))
  | ((with_reducible apply go_lenH); (· walk_at "ow"))
  | (with_reducible apply go_tupL)
  | (with_reducible apply go_tupT)
  | ((with_reducible apply go_tupH); (· walk_at "ow"))
  | (with_reducible apply go_listL)
  | (with_reducible apply go_listT)
  | ((with_reducible apply go_listH); (· walk_at "ow"))
  | (with_reducible apply go_all)
  | (with_reducible apply go_any)
  | ((with_reducible apply go_isi); (· exact rfl); (· walk_at "ty"); (· walk_at "val"))
  | ((with_reducible apply go_inS); (· exact rfl))
  | ((with_reducible apply go_inSL); (· exact rfl))
  | ((with_reducible apply go_sortS); (· walk_at "sz"))
  | (with_reducible apply go_own)
  | (with_reducible apply go_pnil)
  | (with_reducible apply go_pcons)
  | ((with_reducible apply go_lcNil); (· exact trivial))
  | (with_reducible apply go_lcCons)
  | (with_reducible apply go_min2)
  | walk_at "call")
local macro_rules | `(tactic| walk_at "go") => `(tactic| (walk_at "wh"; repeat (walk_at "go1"; walk_at "wh")))
local macro_rules | `(tactic| walk_at "all") => `(tactic| (walk_at "wh"; repeat ((first | walk_at "go1" | (with_reducible refine go_st fun _ _ => ?_) | (with_reducible apply goN; (· assumption))); walk_at "wh")))
theorem goR_inK {ad : Addr} {kvs : List (Str × D)} {f : Bool → Bool} {z : Str} {b : Bool} {Q : D → Prop} (e : (kvs.lookup z).isSome = b) (h : Q (.bl (f b))) : inK ad kvs f (.str z) (.opq (.ref ad)) Q := ⟨rfl, by rw [e]; exact h⟩
theorem goR_ixK {ad : Addr} {kvs : List (Str × D)} {z : Str} {d : D} {Q : D → Prop} (e : kvs.lookup z = some d) (h : Q d) : ixK ad kvs (.opq (.ref ad)) (.str z) Q := ⟨rfl, by rw [e]; exact h⟩
local macro_rules | `(tactic| walk_at "call") => `(tactic| first | ((with_reducible apply goR_inK); (· exact rfl)) | ((with_reducible apply goR_ixK); (· exact rfl)))
end LW
set_option Elab.async false
set_option linter.all false
set_option maxRecDepth 100000
set_option maxHeartbeats 4000000
set_option pp.maxSteps 1200
namespace LW
open PySem PySem.Spec PyProof.Rows L2 EV PySem.XO PySem.W LamX
structure PG (w0 w1 : Str) (cs rs : List D) (i : Int) : Prop where
  c1 : 1 ≤ cs.length
  c4 : cs.length ≤ 5
  hc : ∀ c ∈ cs, ∃ k : Int, c = .int k ∧ 0 ≤ k ∧ k ≤ 10000
  i0 : 0 ≤ i
  i1 : i ≤ 1
  iz : i = 1 → cs.getD 0 .non = .int 0
  r : ∀ r ∈ rs, Stp cs.length rs.length w0 w1 r
  r1 : 1 ≤ rs.length
  rl : rs.length ≤ 10
  last : ∃ ys z, rs = ys ++ [z] ∧ lastOk z = true
theorem num_int {c : D} {a b : Int} (h : isNum c a b = true) : ∃ k : Int, c = .int k ∧ a ≤ k ∧ k ≤ b := by
  cases c with
  | int k => simp [isNum] at h; exact ⟨k, rfl, h.1, h.2⟩
  | _ => simp [isNum] at h
theorem PG.of {w0 w1 : Str} {cs rs : List D} {i cap : Nat} (hp : Plan cap w0 w1 cs rs i) (h9 : cap ≤ 9) : PG w0 w1 cs rs i := by
  obtain ⟨c1, c3, ci, hc, hz⟩ := hp.cell
  obtain ⟨hr, l1, l2, ys, z, e, hz2, _⟩ := hp.rows
  have i1 := hp.i1
  refine ⟨c1, by omega, fun c h => num_int (hc c h).1, by omega, by omega, fun e1 => ?_, hr, l1, by omega, ys, z, e, hz2⟩
  obtain ⟨xs, e2, _⟩ := hp.hcs
  have : i = 1 := by omega
  subst this
  rw [e2]; rfl
theorem PG.good {w0 w1 : Str} {cs rs : List D} {i : Int} {AA : Str → Addr} (n0 : isNm (.str w0) = true) (n1 : isNm (.str w1) = true) (ne : w0 ≠ w1) (h : PG w0 w1 cs rs i) : rdX AA cs rs (.int i) = none := by
  obtain ⟨c1, c4, hc, i0, i1, iz, r, r1, rl, ys, z, e, hl⟩ := h
  have ew : wideAt cs i.toNat = none := find_no fun j hj => by
    have : j = 0 := by omega
    subst this
    rw [iz (by omega)]; rfl
  have hn : ∀ c ∈ cs, isNum c 0 10000 = true := fun c h => by
    obtain ⟨k, rfl, a, b⟩ := hc c h
    simp [isNum]; omega
  unfold rdX
  rw [if_neg (by omega), cells_ok hn]
  dsimp only
  rw [if_neg (by simp [isNum]; omega), ew]
  dsimp only
  rw [if_neg (by omega)]
  subst e
  rw [chk_good n0 n1 ne r hl]
  rfl
theorem PG.nc {w0 w1 : Str} {cs rs : List D} {i : Int} (h : PG w0 w1 cs rs i) : noLs cs = true := noLs_of fun c hc => by obtain ⟨k, rfl, _⟩ := h.hc c hc; rfl
theorem PG.ty {w0 w1 : Str} {cs rs : List D} {i : Int} (h : PG w0 w1 cs rs i) : ∀ c ∈ cs, (tyD c).isSome = true := fun c hc => by obtain ⟨k, rfl, _⟩ := h.hc c hc; rfl
theorem stp_ref {c m : Int} {w0 w1 : Str} (hc : 1 ≤ c) (hm : 1 ≤ m) : Stp c m w0 w1 (.tup [.str "refuse"]) := ⟨0, 0, 0, by omega, by omega, by omega, by omega, by omega, by omega, by simp [stpL]⟩
section
variable {w0 w1 : Str} {cs rs : List D} {i : Int}
theorem PG.more (h : PG w0 w1 cs rs i) (h4 : cs.length ≤ 4) : PG w0 w1 (cs ++ [.int 2]) rs i := by
  obtain ⟨c1, c4, hc, i0, i1, iz, r, r1, rl, ls⟩ := h
  refine ⟨by simp, by simp; omega, fun c hx => ?_, i0, i1, fun e => ?_, fun r' hr => (r r' hr).mono (by simp; omega) (Int.le_refl _), r1, rl, ls⟩
  · rcases List.mem_append.mp hx with hx | hx
    · exact hc c hx
    · simp at hx; exact ⟨2, hx, by omega, by omega⟩
  · have := iz e
    cases cs with
    | nil => simp at c1
    | cons a cs => exact this
theorem PG.ref (h : PG w0 w1 cs rs i) (h9 : rs.length ≤ 9) : PG w0 w1 cs (.tup [.str "refuse"] :: rs) i := by
  obtain ⟨c1, c4, hc, i0, i1, iz, r, r1, rl, ys, z, e, hl⟩ := h
  refine ⟨c1, c4, hc, i0, i1, iz, fun r' hr => ?_, by simp, by simp; omega, .tup [.str "refuse"] :: ys, z, by rw [e]; rfl, hl⟩
  rcases List.mem_cons.mp hr with rfl | hr
  · exact stp_ref (by omega) (by simp; omega)
  · exact (r r' hr).mono (Int.le_refl _) (by simp; omega)
end
end LW
set_option Elab.async false
set_option linter.all false
set_option maxRecDepth 100000
set_option maxHeartbeats 4000000
namespace EV
open PySem PySem.Spec PyProof.Rows L2 PySem.XO
section
variable {X : Cx} {pins : List (Addr × Obj)} {σ : L2.St} {H : Hp} {s : Shared} {C g : Addr} {m : Str} {A : Around} {E : Value → Shared → Prop}
theorem getmethsm_ok {pl : Sem Bool} {Q : Value × List Value → Shared → Prop} (I : Inv X pins σ H s) (k : SMet X.K C m g) (h : ∀ s', Inv X pins σ H s' → Q (.ref g, []) s') : wpAny (model X.prog X.w) A (getMethod (.ref C) m pl) Q E s := by
  obtain ⟨p, rest, e, hp⟩ := k.at_
  refine PySem.W.method_cls I.kIn k.r.ga ?_
  refine PySem.W.cls_bind I.kIn k.r.rd e ?_
  exact wpAny_call (PySem.W.sm_get (s := { s with toks := s.toks + 1 }) I.kIn hp (PySem.W.handed_on rfl (h _ (I.tok _))))
def tSMeth (C : Addr) (sp : Sp) (E : XK) (ta : TE) (t : TA) : TE := fun σ H Q => ta σ H fun x H1 => x = .ref C ∧ t σ H1 fun vs H2 => sp vs H2 Q E
theorem pe_smeth {o e : Expr} {es : List Expr} {apos pos : Pos} {pl : Sem Bool} {ta : TE} {t : TA} {CX : CXT} {k : Nat} {fd : FuncData} {ps : List Str} {sp : Sp} {E : XK} (he : PE X o ta) (c : SMet X.K C m g) (F : FnOk X.prog X.w X.K X.mg X.base CX k g fd ps sp) (hr : Room k X.A) (hb : Binds X.K fd ps []) (hx : Passes CX X E) (ha : PA X (e :: es) t)
    (hst : starEach (e :: es) X.env = (false, eval e X.env) :: starEach es X.env) (hpl : (backTo pos (starEach es X.env)).any (·.1) = false)
    (ht : eval (.Call (.Attribute o m apos) (e :: es) [] pos) X.env = (do
      let ov ← eval o X.env
      standAt apos.atName
      let (f, first) ← holding [ov] (getMethod ov m pl)
      callWith pos f first (backTo pos (starEach (e :: es) X.env)) (backToKw pos (keywordEach [] X.env)))) :
    PE X (.Call (.Attribute o m apos) (e :: es) [] pos) (tSMeth C sp E ta t) := by
  refine ⟨fun pins s σ H Q I h => ?_⟩
  refine PySem.W.methodCall_KW (pl := pl) (thn (he.run pins s σ H _ I h) fun u s1 ⟨x, H1, I1, rx, ex, q⟩ => ?_) ht
  subst ex
  obtain rfl : u = Value.ref C := rx
  refine getmethsm_ok I1 c fun s2 I2 => ?_
  refine PySem.W.callWith_K (h₀ := X.base) I2.ok.mod.kin c.kp (thn (ha.run pos pins s2 σ H1 _ I2 q) fun us s3 ⟨vs, H2, I3, rv, q2⟩ => ⟨I3.kIn, ?_⟩) hst hpl
  exact run_fn (us := us) (vs := vs) F hr hb .nil hx I3 rv (by rw [List.append_nil]; exact q2)
end
section
variable {X : Cx} {L : Pl}
abbrev dSMeth (C : Addr) (sp : DSp) (mo : DE) (mA : DA) : DE := fun ρ O Q E => mo ρ O (fun x O1 => x = .opq (.ref C) ∧ mA ρ O1 (fun ds O2 => spM sp ds O2 Q E) E) E
theorem d_smeth {o e : Expr} {es : List Expr} {apos pos : Pos} {pl : Sem Bool} {mo : DE} {mA : DA} {CX : CXT} {k : Nat} {C g : Addr} {m : Str} {fd : FuncData} {ps : List Str} {sp : DSp} {E : XK} (hE : ∀ σ, L.W σ = E) (ho : DPE X L o mo) (c : SMet X.K C m g) (F : FnOk X.prog X.w X.K X.mg X.base CX k g fd ps (spD X.K sp)) (hr : Room k X.A) (hb : Binds X.K fd ps []) (hx : Passes CX X E) (ha : DPA X L (e :: es) mA)
    (hst : starEach (e :: es) X.env = (false, eval e X.env) :: starEach es X.env) (hpl : (backTo pos (starEach es X.env)).any (·.1) = false)
    (ht : eval (.Call (.Attribute o m apos) (e :: es) [] pos) X.env = (do
      let ov ← eval o X.env
      standAt apos.atName
      let (f, first) ← holding [ov] (getMethod ov m pl)
      callWith pos f first (backTo pos (starEach (e :: es) X.env)) (backToKw pos (keywordEach [] X.env)))) :
    DPE X L (.Call (.Attribute o m apos) (e :: es) [] pos) (dSMeth C sp mo mA) := by
  refine ⟨fun ρ O Q Q' E E' q hx x => ho.mo ρ _ _ _ _ _ (fun _ _ z => ⟨z.1, ha.mo ρ _ _ _ _ _ (fun _ _ y => spM_mo q hx y) hx z.2⟩) hx x, pe_imp (pe_smeth ho.run c F hr hb hx ha.run hst hpl ht) fun σ H Q ⟨G, O, ρ, gd, rs, q⟩ => ?_⟩
  refine up_of ho.mo gd rs q fun x v O1 G1 H1 q1 s1 r1 => ?_
  obtain ⟨rfl, q1⟩ := q1
  cases r1
  refine ⟨rfl, upA_of ha.mo s1.good (rs.step s1) (mo_step ha.mo s1 q1) fun ds vs O2 G2 H2 q2 s2 r2 => ?_⟩
  have s12 := s1.trans s2
  refine ⟨G2, O2, ds, s2.good.none, r2, spM_mo (fun d O3 z => ?_) (fun x _ z => ?_) q2⟩
  · exact (z.step s12).lift s2.good
  · rw [hE] at z
    exact (z.step s12).lift s2.good
def splitD (a : Str) : D → (D → Prop) → Prop := fun y Q => ∃ b : Str, y = .str b ∧ (b.length == 0) = false ∧ a.length + 2 ≤ sizeLine ∧ Q (.lst ((Txt.split a b).map D.str))
theorem splitD_mo : ∀ a y Q Q', (∀ d, Q d → Q' d) → splitD a y Q → splitD a y Q' := fun _ _ _ _ h ⟨b, e, l1, l2, q⟩ => ⟨b, e, l1, l2, h _ q⟩
theorem RpL.strs {K : PySem.W.Frag} {G : Hp} : ∀ ys : List Str, RpL K G (ys.map V.str) (ys.map D.str)
  | [] => .nil
  | y :: ys => .cons (.str y) (RpL.strs ys)
theorem d_split {o e : Expr} {mo' m : DE} {apos pos : Pos} (ho : DPE X L o mo') (he : DPE X L e m) (hs : starEach [e] X.env = [(false, eval e X.env)]) (hbase : attributeBase o "split" X.env (eval o X.env) = eval o X.env) (hline : (apos.endLine == pos.line) = true) :
    DPE X L (.Call (.Attribute o "split" apos) [e] [] pos) (dM1 splitD mo' m) := by
  refine d_m1 F.slot_str_split F.type_str_split mt_split (fun O G H a vy y Q g ry h => ?_) splitD_mo ho he hs hbase hline
  obtain ⟨b, rfl, l1, l2, q⟩ := h
  cases ry
  exact ⟨a, b, rfl, rfl, l1, l2, fun p n => q _ _ _ (Step.new g n) (new_lst g n (RpL.strs _))⟩
theorem go_split {a b : Str} {R : D → Prop} (l1 : (b.length == 0) = false) (l2 : a.length + 2 ≤ sizeLine) (h : R (.lst ((Txt.split a b).map D.str))) : splitD a (.str b) R := ⟨b, rfl, l1, l2, h⟩
end
end EV
set_option Elab.async false
set_option linter.all false
set_option maxRecDepth 100000
set_option maxHeartbeats 4000000
namespace EV
open PySem PySem.Spec PyProof.Rows L2 PySem.XO
section
variable {X : Cx} {L : Pl} {B : Bo}
def intSD : PC := fun xs Q => match xs with
  | [.str a] => ∃ n, PySem.intText? a = some n ∧ a.length ≤ 640 ∧ Q (.int n)
  | _ => False
theorem cd_intS : CallD X B (.type "int") (pc intSD) := by
  refine ⟨fun O x Q Q' q z => ?_, _, call_int_str, fun O G H vs ds Q g r h => ?_⟩
  · dsimp only [pc] at z ⊢; unfold intSD at z ⊢
    split at z
    · obtain ⟨n, a, b, c⟩ := z
      exact ⟨n, a, b, q _ c⟩
    · exact z
  · dsimp only [pc] at h; unfold intSD at h
    split at h
    · obtain ⟨n, e, l, h⟩ := h
      cases r with | cons r1 r2 =>
      cases r2
      cases r1
      exact ⟨_, n, rfl, e, l, h _ _ _ (Step.refl g) (.int _)⟩
    · exact h.elim
theorem go_intS {a : Str} {n : Int} {R : D → Prop} (e : PySem.intText? a = some n) (l : a.length ≤ 640) (h : R (.int n)) : intSD [.str a] R := ⟨n, e, l, h⟩
end
end EV
set_option Elab.async false
set_option linter.all false
set_option maxRecDepth 100000
set_option maxHeartbeats 1500000
set_option pp.maxSteps 1200
namespace LW
open PySem PySem.Spec PyProof.Rows L2 EV PySem.XO PySem.W LamX
local macro_rules | `(tactic| walk_at "fd") => `(tactic| first | assumption | rfl)
local macro_rules | `(tactic| walk_at "ow") => `(tactic| first | assumption | exact oset_self | (rw [oset_ne (by assumption)]; walk_at "ow") | (rw [oset_ne (Ne.symm (by assumption))]; walk_at "ow"))
local macro_rules | `(tactic| walk_at "ix") => `(tactic| first | exact EV.ga0 | exact EV.ga1 | exact EV.ga2 | exact EV.ga3 | exact EV.ga4 | exact EV.ga5 | exact EV.ga6 | exact EV.ga7 | exact EV.ga8 | exact EV.ga9 | exact EV.ga10 | exact EV.ga11 | exact EV.ga12 | exact EV.ga13 | exact EV.ga14 | exact EV.ga15 | assumption | rfl)
local macro_rules | `(tactic| walk_at "sz") => `(tactic| first | exact trivial | (with_reducible assumption) | omega | ((with_reducible refine szR ?_); exact rfl) | ((with_reducible refine szk' ?_); omega) | ((with_reducible refine szl ?_); omega) | exact szlt rfl | rfl | exact ⟨rfl, by assumption⟩ | exact ⟨rfl, rfl⟩ | exact ⟨_, rfl⟩ | ((with_reducible refine szk' ?_); simp only [List.length_cons, List.length_nil, List.length_append, List.length_map]; omega) | (unfold CMul; omega) | (unfold CDiv; omega) | (unfold CPow; exact ⟨by omega, by omega, by omega⟩) | (constructor; · omega; · omega))
local macro_rules | `(tactic| walk_at "val") => `(tactic| first | assumption | exact rfl)
local macro_rules | `(tactic| walk_at "ty") => `(tactic| first | assumption | exact rfl)
local macro_rules | `(tactic| walk_at "bt") => `(tactic| first | exact rfl | assumption)
local macro_rules | `(tactic| walk_at "n") => `(tactic| refine st_norm (by simp only [List.set_cons_succ, List.set_cons_zero]; rfl) ?_)
local macro_rules | `(tactic| walk_at "wh") => `(tactic| with_reducible conv => whnf)
local macro_rules | `(tactic| walk_at "call") => `(tactic| fail)
local macro_rules | `(tactic| walk_at "go1") => `(tactic| first
  | ((with_reducible apply go_var); (· exact rfl))
  | ((with_reducible apply go_varF); (· exact rfl); (· walk_at "ow"))
  | ((with_reducible apply go_set); (· (simp only [wipeD, List.map_cons, List.map_nil, List.set_cons_succ, List.set_cons_zero]; rfl)))
  | ((with_reducible apply go_fld); (· walk_at "fd"))
  | ((with_reducible apply go_fldH); (· walk_at "ow"); (· walk_at "fd"))
  | ((with_reducible apply go_ixT); (· walk_at "ix"))
  | ((with_reducible apply go_ixL); (· walk_at "ix"))
  | ((with_reducible apply go_ixH); (· walk_at "ow"); (· walk_at "ix"))
  | ((with_reducible apply go_bcT); (· walk_at "bt"))
  | ((with_reducible apply go_bcF); (· walk_at "bt"))
  | ((with_reducible apply go_methH); (· walk_at "ow"); (· walk_at "fd"))
  | ((with_reducible apply And.intro); (· walk_at "sz"))
  | ((with_reducible apply go_lm); (· walk_at "ow"))
  | ((with_reducible apply go_lm2); (· walk_at "ow"))
  | ((with_reducible apply go_app); (· walk_at "sz"))
  | ((with_reducible apply go_ext); (· walk_at "sz"))
  | ((with_reducible apply go_setF); (· walk_at "ow"))
  | ((with_reducible apply go_frz); (· walk_at "ow"))
  | ((with_reducible apply go_atK); (· walk_at "val"))
  | ((with_reducible apply go_atS); (· walk_at "val"))
  | ((with_reducible apply go_atI); (· walk_at "val"))
  | ((with_reducible apply go_atHK); (· walk_at "ow"); (· walk_at "val"))
  | ((with_reducible apply go_atHS); (· walk_at "ow"); (· walk_at "val"))
  | ((with_reducible apply go_dputS); (· walk_at "ow"); (· walk_at "sz"))
  | ((with_reducible apply go_dputK); (· walk_at "ow"); (· walk_at "sz"))
  | (with_reducible apply go_eqI)
  | (with_reducible apply go_eqS)
  | (with_reducible apply go_eqB)
  | (with_reducible apply go_neg)
  | (with_reducible apply go_lenL)
  | (with_reducible apply go_lenT)
  | ((with_reducible apply go_lenS); (· walk_at "sz"))
  | ((with_reducible apply go_lenH); (· walk_at "ow"))
  | (with_reducible apply go_tupL)
  | (with_reducible apply go_tupT)
  | ((with_reducible apply go_tupH); (· walk_at "ow"))
  | (with_reducible apply go_listL)
  | (with_reducible apply go_listT)
  | ((with_reducible apply go_listH); (· walk_at "ow"))
  | (with_reducible apply go_all)
  | (with_reducible apply go_any)
  | ((with_reducible apply go_isi); (· exact rfl); (· walk_at "ty"); (· walk_at "val"))
  | ((with_reducible apply go_inS); (· exact rfl))
  | ((with_reducible apply go_inSL); (· exact rfl))
  | ((with_reducible apply go_sortS); (· walk_at "sz"))
  | (with_reducible apply go_own)
  | (with_reducible apply go_pnil)
  | (with_reducible apply go_pcons)
  | ((with_reducible apply go_lcNil); (· exact trivial))
  | (with_reducible apply go_lcCons)
  | (with_reducible apply go_min2)
  | walk_at "call")
local macro_rules | `(tactic| walk_at "go") => `(tactic| (walk_at "wh"; repeat (walk_at "go1"; walk_at "wh")))
local macro_rules | `(tactic| walk_at "all") => `(tactic| (walk_at "wh"; repeat ((first | walk_at "go1" | (with_reducible refine go_st fun _ _ => ?_) | (with_reducible apply goN; (· assumption))); walk_at "wh")))
abbrev s_number_in : Stmt := topS 17
abbrev N_number_in : List Str := ["word", "digit"]
theorem sc_number_in : FnScope N_number_in ["word"] (defScope s_number_in) := ⟨rfl, rfl, rfl, by decide +kernel, rfl, by decide +kernel, by decide +kernel⟩
abbrev digitsT : Str := "0123456789"
/-- the word of a small number -/
abbrev numW (n : Nat) : Str := ((toString ((n : Nat) : Int) : String) : Str)
theorem go_ixS {z : Str} {i : Int} {c : Nat} {R : D → Prop} (l : z.length ≤ sizeLine) (e : atI z.cps.toList i = some c) (h : R (.str ⟨#[c]⟩)) : ixP (.str z) (.int i) R := ⟨l, by rw [e]; exact h⟩
/-- what number_in finds -/
def numP (w : Str) : Option Nat := if decide (1 ≤ w.length) && (decide (w.length ≤ 15) && ((co w).all fun c => decide (c ∈ co digitsT))) then (if decide ((co w).headD 0 = 48) && !decide (w = "0") then none else some (NumText.digitsVal (co w))) else none
def onD : Option Nat → D
  | some n => .int n
  | none => .non
theorem dig_mem {c : Nat} : c ∈ co digitsT ↔ 48 ≤ c ∧ c ≤ 57 := by
  rw [show co digitsT = [48, 49, 50, 51, 52, 53, 54, 55, 56, 57] from by decide +kernel]
  simp only [List.mem_cons, List.not_mem_nil, or_false]
  omega
theorem numP_num {n : Nat} (h : n < 10 ^ 15) : numP (numW n) = some n := by
  have e : co (numW n) = TL.numL n := TL.tl_num n
  have hl := TL.numL_len (k := 15) (by decide) h
  have hlen : (numW n).length = (TL.numL n).length := by rw [TL.len_tl]; exact congrArg List.length e
  have hne := TL.numL_ne n
  have hdig := TL.numL_digits n
  unfold numP
  have h1 : (decide (1 ≤ (numW n).length) && (decide ((numW n).length ≤ 15) && ((co (numW n)).all fun c => decide (c ∈ co digitsT)))) = true := by
    rw [e, hlen]
    simp only [Bool.and_eq_true, decide_eq_true_eq, List.all_eq_true]
    exact ⟨List.length_pos_iff.mpr hne, hl, fun c hc => dig_mem.mpr (hdig c hc)⟩
  rw [if_pos h1, e, TL.numL_val]
  have h2 : (decide ((TL.numL n).headD 0 = 48) && !decide (numW n = "0")) = false := by
    by_cases h10 : n < 10
    · rw [TL.numL_lt h10]
      by_cases n0 : n = 0
      · subst n0; decide +kernel
      · rw [decide_eq_false (by simp; omega)]; rfl
    · have key : ∀ m, 1 ≤ m → (TL.numL m).headD 0 ≠ 48 := by
        intro m
        induction m using Nat.strongRecOn with
        | _ m ih =>
          intro hm
          by_cases hm10 : m < 10
          · rw [TL.numL_lt hm10]; simp; omega
          · rw [TL.numL_step (by omega)]
            have := ih (m / 10) (by omega) (by omega)
            have hne := TL.numL_ne (m / 10)
            cases hL : TL.numL (m / 10) with
            | nil => exact absurd hL hne
            | cons a r => rw [hL] at this; exact this
      rw [decide_eq_false (key n (by omega))]; rfl
  rw [h2]; rfl
def digB : D → D
  | .str z => .bl (decide ((co z).headD 0 ∈ co digitsT))
  | _ => .non
def numInP : DSp := fun ds O Q _ => ∃ w : Str, ds = [.str w] ∧ w.length ≤ sizeLine ∧ Q (onD (numP w)) O
section
variable {P : Program} {w : World} {K : PySem.W.Frag} {mg : Str → Option Value} {base : Heap}
theorem ok_number_inP {f : Addr} {fd : FuncData} (F : Fun K "number_in" "number_in" s_number_in f fd) (m_len : mg "len" = none) (m_all : mg "all" = none) (m_int : mg "int" = none)
    {tL tN : Tok} (M_DIGITS : mg "DIGITS" = some (.str digitsT tL)) (M_MOST_DIGITS : mg "MOST_DIGITS" = some (.int 15 tN)) :
    FnOk P w K mg base CX0 1 f fd ["word"] (spD K numInP) := by
  refine fn_pure F sc_number_in (fun ds O Q E h => ?_) (fun cdv A outer s H E hr =>
    (d_scons (d_ifS (DPW.pt (d_wor (d_tnot (d_tchain od_le od_le d_int (d_callB cd_len rfl m_len boot_len (d_cons (d_var (i := 0) rfl (.inl rfl) (by decide) (by decide)) d_nil rfl) (by decide) (by decide) rfl rfl) (d_globI rfl M_MOST_DIGITS (by decide)) (by with_unfolding_all rfl))) (d_or1 (d_tnot (d_test (d_callB (cd_all rfl) rfl m_all boot_all (d_cons (d_lc rfl sc_number_in.nd (d_iter (d_var (i := 0) rfl (.inl rfl) (by decide) (by decide))) (blkOk_by (own := [("digit", 1)]) (N := N_number_in) (sc := defScope s_number_in) (by decide +kernel)) (fun _ _ _ _ _ => (dg_name (i := 1) sc_number_in.nd rfl (.inl rfl) (.inr rfl))) (fun _ _ _ _ _ => d_ifs0) (fun _ _ _ _ _ => (d_cmp (od_in (hu1 hr)) (d_var (i := 1) rfl (.inl rfl) (by decide) (by decide)) (d_globS rfl M_DIGITS (by decide)) rfl)) (by decide +kernel) (fun _ => rfl)) d_nil rfl) (by decide) (by decide) rfl rfl) (by intro _; rfl)))))) (d_sone (d_ret d_non)) d_snil)
      (d_sone (d_ret (d_if (DPW.pt (d_wand (d_tcmp (od_eq hr.units) (d_ix (d_var (i := 0) rfl (.inl rfl) (by decide) (by decide)) d_int (fun _ _ => rfl)) d_str (nomark _)) (d_and1 (d_tcmp (od_ne hr.units) (d_var (i := 0) rfl (.inl rfl) (by decide) (by decide)) d_str (nomark _))))) d_non (d_callTy cd_intS rfl m_int boot_int (d_cons (d_var (i := 0) rfl (.inl rfl) (by decide) (by decide)) d_nil rfl) (by decide) (by decide) rfl rfl)))))) (fun ds O Q E h => ?_) (fun ds O Q E h => h)
  · obtain ⟨n, rfl, _⟩ := h; rfl
  · obtain ⟨y, rfl, hl, q⟩ := h
    rw [show startD N_number_in [.str y] = [.sh (.str y), .un] from rfl]
    refine go_st fun N hN => ?_
    walk_at "go"
    by_cases h1 : 1 ≤ y.length
    rotate_left
    · refine go_bcF (decide_eq_false (by omega)) ?_
      walk_at "go"
      unfold numP at q
      rw [decide_eq_false h1] at q
      exact q
    refine go_bcT (decide_eq_true (by omega)) ?_
    walk_at "go"
    by_cases h2 : y.length ≤ 15
    rotate_left
    · refine go_bcT (show (!decide ((y.length : Int) ≤ 15)) = true by rw [decide_eq_false (by omega)]; rfl) ?_
      walk_at "go"
      unfold numP at q
      rw [decide_eq_true h1, decide_eq_false h2] at q
      exact q
    refine go_bcF (show (!decide ((y.length : Int) ≤ 15)) = false by rw [decide_eq_true (by omega)]; rfl) ?_
    walk_at "go"
    change lcW _ _ _ _ _ (charsD y) _ _ _
    refine go_lc digB (fun d hd Qy k => ?_) (by show 0 + (charsD y).length ≤ sizeLine; rw [show (charsD y).length = y.length by simp [charsD, TL.len_tl]]; exact szk' (by omega)) ?_
    · obtain ⟨c, mc, rfl⟩ := List.mem_map.mp hd
      walk_at "go"
      show Qy (.bl (decide (c ∈ co digitsT))) O
      exact k
    rw [List.nil_append]
    walk_at "go"
    have em : (charsD y).map digB = (co y).map fun c => D.bl (decide (c ∈ co digitsT)) := by
      unfold charsD co
      rw [List.map_map]
      rfl
    rw [em]
    refine go_all ?_
    have lz : y.length ≤ sizeLine := szk' (by omega)
    obtain ⟨c0, r0, hc0⟩ : ∃ c0 r0, co y = c0 :: r0 := by
      cases hc : co y with
      | nil => have : y.length = 0 := by rw [TL.len_tl]; show (co y).length = 0; rw [hc]; rfl
               omega
      | cons a r => exact ⟨a, r, rfl⟩
    by_cases h3 : ((co y).all fun c => decide (c ∈ co digitsT)) = true
    rotate_left
    · have h3 := eq_false_of_ne_true h3
      rw [h3]
      walk_at "go"
      unfold numP at q
      rw [h3, Bool.and_false, Bool.and_false] at q
      exact q
    rw [h3]
    walk_at "go"
    subst hN
    have q2 : Q (onD (if (decide ((co y).headD 0 = 48) && !decide (y = "0")) = true then none else some (NumText.digitsVal (co y)))) O := by
      unfold numP at q
      rw [decide_eq_true h1, decide_eq_true h2, h3] at q
      exact q
    rw [hc0, List.headD_cons] at q2
    have hint : PySem.intText? y = some ((NumText.digitsVal (co y) : Nat) : Int) := intText_digits (x := y) (fun c hc => dig_mem.mp (of_decide_eq_true (List.all_eq_true.mp h3 c hc))) (by show co y ≠ []; rw [hc0]; simp) (by omega)
    rw [hc0] at hint
    walk_at "go"
    refine go_ixS (c := c0) lz (by show atI (co y) 0 = some c0; rw [hc0]; exact atI_nat (xs := c0 :: r0) (j := 0) rfl) ?_
    walk_at "go"
    have e48 : decide ((⟨#[c0]⟩ : Str) = "0") = decide (c0 = 48) := by
      rw [show ("0" : Str) = ⟨#[48]⟩ from by decide +kernel]
      exact decide_eq_decide.mpr ⟨fun h => by simpa using congrArg (fun z : Str => z.cps.toList) h, fun h => by rw [h]⟩
    show bc (decide ((⟨#[c0]⟩ : Str) = "0")) _ _
    rw [e48]
    by_cases c48 : c0 = 48
    · rw [decide_eq_true c48] at q2 ⊢
      walk_at "go"
      show bc (!decide (y = "0")) _ _
      by_cases y0 : y = "0"
      · rw [decide_eq_true y0] at q2 ⊢
        walk_at "go"
        exact go_intS hint (by omega) q2
      · rw [decide_eq_false y0] at q2 ⊢
        walk_at "go"
        exact q2
    · rw [decide_eq_false c48] at q2 ⊢
      walk_at "go"
      exact go_intS hint (by omega) q2
end
end LW
set_option Elab.async false
set_option linter.all false
set_option maxRecDepth 100000
set_option maxHeartbeats 4000000
namespace L2
open PySem PySem.Spec PyProof.Rows PySem.W
section
variable {prog : Program} {w : World} {A : Around} {E : Value → Shared → Prop} {s : Shared}
theorem unpack_st {l : Addr} {x : Value} {ys : List Value} {Q : List Value → Shared → Prop} (hl : s.heap.IsList l (x :: ys).toArray) (hh : A.handled = none) (hz : ys.length ≤ 16000)
    (h : ∀ (h' : Heap) (tk : Nat), (∀ b o, s.heap.get? b = some o → h'.get? b = some o) → Q [x, .ref h'.objs.size] { s with heap := h'.push { cls := .type "list", data := .seq ys.toArray }, toks := tk }) :
    wpAny (model prog w) A (unpackItems (.ref l) 2 (some 1)) Q E s := by
  obtain ⟨ob, eb, cb, nb, db⟩ := id hl
  have lt := Heap.lt_size eb
  have ne : l ≠ s.heap.objs.size := Nat.ne_of_lt lt
  unfold unpackItems notIterableAtAll
  refine wpAny_bind (wpAny_bind (wpAny_specialOf hl.typeIs slot_list_iter.lookup (wpAny_pure ?_)))
  rw [if_neg (by decide)]
  refine wpAny_bind (wpAny_holding (wpAny_pyIter_list hl ?_))
  refine wpAny_bind (wpAny_holding (kun_draw ne 1 0 _ _ ⟨_, Heap.get?_push_size _ rfl, rfl, rfl⟩ (hl.push _) (by simp) fun h₁ it₁ sb₁ => ?_))
  rw [Nat.zero_add] at it₁
  have hl₁ : h₁.IsList l (x :: ys).toArray := (hl.push _).extBut sb₁.extBut ne
  obtain ⟨o1, e1, _⟩ := id it₁
  obtain ⟨o2, e2, _⟩ := id hl₁
  dsimp only
  rw [if_neg (by simp)]
  refine wpAny_bind (wpAny_holding (kun_collect (s := { s with heap := h₁ }) (T := "list_iterator") (.inr (.inr (.inl rfl))) (Walks.list (A := A.in1) hh s.heap.objs.size l ne (x :: ys).toArray) (fun j u st => st.1.typeIs) (k := 1) (by simp) ⟨it₁, hl₁⟩ (Heap.lt_size e1) (Heap.lt_size e2) (fun h₂ tk k₂ => ?_) ?_))
  · rw [if_neg (by simp)]
    refine wpAny_bind (wpAny_newList ?_ ?_)
    · have := h h₂ tk fun b o e => k₂ b o (Nat.ne_of_lt (Heap.lt_size e)) (sb₁.extBut b o (Nat.ne_of_lt (Heap.lt_size e)) (Heap.get?_push_of_some _ e))
      refine wpAny_pure ?_
      simpa using this
    · rw [sizeLine_eq]; simp; omega
  · rw [sizeLine_eq]; simp; omega
end
section
variable {X : Cx} {e : Expr} {te : TE}
def tAsgSt (K : PySem.W.Frag) (te : TE) (i j : Nat) : TS := fun D σ H => te σ H fun x H1 => ∃ l y ys, x = .ref l ∧ SqL K H1 l (y :: ys) ∧ ys.length ≤ 16000 ∧ ∀ p, H1 p = none → D.nx ((σ.set i (some y)).set j (some (.ref p))) (upd H1 p (.lst ys))
theorem ps_asgSt {i j : Nat} {x y : Str} {px py ps pt pos : Pos} {k : Nat} (hc : X.calm = true) (hN : X.N.Nodup) (hi : X.N[i]? = some x) (hj : X.N[j]? = some y) (hx : Loc X.env.scope x) (hy : Loc X.env.scope y)
    (fx : X.fn x = true ∨ X.env.scope.names.lookup x = some .local) (fy : X.fn y = true ∨ X.env.scope.names.lookup y = some .local) (he : PE X e te)
    (hs : swapsWithSole [.Tuple [.Name x px, .Starred (.Name y py) ps] k pt] e pos.line X.env = pure false) (hw : swappedStores [.Tuple [.Name x px, .Starred (.Name y py) ps] k pt] e X.env = pure none)
    (h1 : (assignEach [.Tuple [.Name x px, .Starred (.Name y py) ps] k pt] X.env).map (·.2) = [assign (.Tuple [.Name x px, .Starred (.Name y py) ps] k pt) X.env])
    (h2 : assignEach [.Name x px, .Starred (.Name y py) ps] X.env = [(false, assign (.Name x px) X.env), (true, assign (.Name y py) X.env)]) :
    PS X (.Assign [.Tuple [.Name x px, .Starred (.Name y py) ps] k pt] e pos) (tAsgSt X.K te i j) := by
  refine ⟨fun pins s σ H D I h => ?_⟩
  refine wpAny_Assign_stores (thn (he.run pins s σ H _ I h) fun v s1 ⟨z, H1, I1, r1, l, a, ys, ez, sq, hz, q⟩ => ?_) hs hw
  subst ez
  cases r1
  rw [h1]
  change wpAny _ _ (assign (.Tuple [.Name x px, .Starred (.Name y py) ps] k pt) X.env (.ref l)) _ _ _
  obtain ⟨its, rv, ht, hzl⟩ := I1.list sq
  cases rv with
  | @cons _ u _ us ra rr =>
    rw [assign_Tuple]
    refine wpAny_bind (wpAny_standAt ?_)
    unfold unpack
    rw [h2]
    refine wpAny_bind (wpAny_holding (unpack_st ht.isList (I1.ok.hd hc) (by rw [← rr.length]; exact hz) fun h' tk kp => ?_))
    have I2 : Inv X pins σ (upd H1 h'.objs.size (.lst ys)) { s1 with heap := h'.push { cls := .type "list", data := .seq us.toArray }, toks := tk } := by
      have I0 : Inv X pins σ H1 { s1 with heap := h', toks := tk } := I1.kept kp
      exact I0.laid (t' := tk) (fun b o eb => Heap.get?_push_of_some _ eb) (Nat.le_refl _) (show ObjOk X.prog X.w _ _ _ (.lst ys) from ⟨by rw [sizeLine_eq]; omega, us, 0, rr, Heap.get?_push_size _ rfl⟩)
    have np : H1 h'.objs.size = none := (I1.kept (t' := tk) kp).hok.fresh (Nat.le_refl _)
    refine assignInOrder_cons (wpAny_assign_Name (store_ok I2 hN hi hx ra (fun s3 I3 => ?_) fx))
    refine assignInOrder_cons (wpAny_assign_Name (store_ok (v := .ref h'.objs.size) I3 hN hj hy rfl (fun s4 I4 => ?_) fy))
    exact assignInOrder_nil ⟨_, _, I4, q _ np⟩
end
end L2
namespace EV
open PySem PySem.Spec PyProof.Rows L2 PySem.XO
section
variable {X : Cx} {L : Pl} {e : Expr} {m : DE}
def stD (i j : Nat) (d : D) (ρ : Slots) (Q : Slots → Prop) : Prop := match d with
  | .lst (y :: ys) => ys.length ≤ 16000 ∧ Q ((ρ.set i (.sh y)).set j (.sh (.lst ys)))
  | _ => False
theorem stD_mo {i j : Nat} {d : D} {ρ : Slots} {Q Q' : Slots → Prop} (h : ∀ r, Q r → Q' r) (z : stD i j d ρ Q) : stD i j d ρ Q' := by
  unfold stD at z ⊢
  split at z
  · exact ⟨z.1, h _ z.2⟩
  · exact z
abbrev dAsgSt (m : DE) (i j : Nat) : DS := fun A ρ O => m ρ O (fun d O1 => stD i j d ρ fun r => A.nx r O1) fun x O1 => A.ex x ρ O1
theorem d_asgSt {i j : Nat} {x y : Str} {px py ps pt pos : Pos} {k : Nat} (hc : X.calm = true) (hN : X.N.Nodup) (hi : X.N[i]? = some x) (hj : X.N[j]? = some y) (hx : Loc X.env.scope x) (hy : Loc X.env.scope y)
    (fx : X.fn x = true ∨ X.env.scope.names.lookup x = some .local) (fy : X.fn y = true ∨ X.env.scope.names.lookup y = some .local) (he : DPE X L e m)
    (hs : swapsWithSole [.Tuple [.Name x px, .Starred (.Name y py) ps] k pt] e pos.line X.env = pure false) (hw : swappedStores [.Tuple [.Name x px, .Starred (.Name y py) ps] k pt] e X.env = pure none)
    (h1 : (assignEach [.Tuple [.Name x px, .Starred (.Name y py) ps] k pt] X.env).map (·.2) = [assign (.Tuple [.Name x px, .Starred (.Name y py) ps] k pt) X.env])
    (h2 : assignEach [.Name x px, .Starred (.Name y py) ps] X.env = [(false, assign (.Name x px) X.env), (true, assign (.Name y py) X.env)]) :
    DPS X L (.Assign [.Tuple [.Name x px, .Starred (.Name y py) ps] k pt] e pos) (dAsgSt m i j) := by
  refine ⟨fun A A' ρ O l z => he.mo _ _ _ _ _ _ (fun d _ y => stD_mo (fun r => l.nx _ _) y) (fun x _ y => l.ex _ _ _ y) z, ps_imp (ps_asgSt hc hN hi hj hx hy fx fy he.run hs hw h1 h2) fun Dn σ H ⟨G, O, ρ, g, rs, q⟩ => ?_⟩
  refine upE he.mo g rs q fun d v O' G' H' z s r => ?_
  unfold stD at z
  split at z
  · rename_i dy ds
    cases r with
    | @lst a vs _ h1 rl =>
      cases rl with
      | @cons vy vs' _ _ ry rr =>
        refine ⟨a, vy, vs', rfl, SqL.of (s.good.sub _ _ h1), by rw [rr.length]; exact z.1, fun p np => ?_⟩
        have st := Step.new (o := .lst vs') s.good np
        exact z.2 _ _ _ (s.trans st) ((((rs.step s).step st).set (ry.mono st.grow)).set (new_lst s.good np rr))
  · exact z.elim
theorem go_stD {i j : Nat} {y : D} {ys : List D} {ρ ρ' : Slots} {Q : Slots → Prop} (hl : ys.length ≤ 16000) (e : (ρ.set i (.sh y)).set j (.sh (.lst ys)) = ρ') (h : Q ρ') : stD i j (.lst (y :: ys)) ρ Q := by subst e; exact ⟨hl, h⟩
end
end EV
set_option Elab.async false
set_option linter.all false
set_option maxRecDepth 100000
set_option maxHeartbeats 1500000
set_option pp.maxSteps 1200
namespace LW
open PySem PySem.Spec PyProof.Rows L2 EV PySem.XO PySem.W LamX
local macro_rules | `(tactic| walk_at "fd") => `(tactic| first | assumption | rfl)
local macro_rules | `(tactic| walk_at "ow") => `(tactic| first | assumption | exact oset_self | (rw [oset_ne (by assumption)]; walk_at "ow") | (rw [oset_ne (Ne.symm (by assumption))]; walk_at "ow"))
local macro_rules | `(tactic| walk_at "ix") => `(tactic| first | exact EV.ga0 | exact EV.ga1 | exact EV.ga2 | exact EV.ga3 | exact EV.ga4 | exact EV.ga5 | exact EV.ga6 | exact EV.ga7 | exact EV.ga8 | exact EV.ga9 | exact EV.ga10 | exact EV.ga11 | exact EV.ga12 | exact EV.ga13 | exact EV.ga14 | exact EV.ga15 | assumption | rfl)
local macro_rules | `(tactic| walk_at "sz") => `(tactic| first | exact trivial | (with_reducible assumption) | omega | ((with_reducible refine szR ?_); exact rfl) | ((with_reducible refine szk' ?_); omega) | ((with_reducible refine szl ?_); omega) | exact szlt rfl | rfl | exact ⟨rfl, by assumption⟩ | exact ⟨rfl, rfl⟩ | exact ⟨_, rfl⟩ | ((with_reducible refine szk' ?_); simp only [List.length_cons, List.length_nil, List.length_append, List.length_map]; omega) | (unfold CMul; omega) | (unfold CDiv; omega) | (unfold CPow; exact ⟨by omega, by omega, by omega⟩) | (constructor; · omega; · omega))
local macro_rules | `(tactic| walk_at "val") => `(tactic| first | assumption | exact rfl)
local macro_rules | `(tactic| walk_at "ty") => `(tactic| first | assumption | exact rfl)
local macro_rules | `(tactic| walk_at "bt") => `(tactic| first | exact rfl | assumption)
local macro_rules | `(tactic| walk_at "n") => `(tactic| refine st_norm (by simp only [List.set_cons_succ, List.set_cons_zero]; rfl) ?_)
local macro_rules | `(tactic| walk_at "wh") => `(tactic| with_reducible conv => whnf)
local macro_rules | `(tactic| walk_at "call") => `(tactic| fail)
local macro_rules | `(tactic| walk_at "go1") => `(tactic| first
  | ((with_reducible apply go_var); (· exact rfl))
  | ((with_reducible apply go_varF); (· exact rfl); (· walk_at "ow"))
  | ((with_reducible apply go_set); (· (simp only [wipeD, List.map_cons, List.map_nil, List.set_cons_succ, List.set_cons_zero]; rfl)))
  | ((with_reducible apply go_fld); (· walk_at "fd"))
  | ((with_reducible apply go_fldH); (· walk_at "ow"); (· walk_at "fd"))
  | ((with_reducible apply go_ixT); (· walk_at "ix"))
  | ((with_reducible apply go_ixL); (· walk_at "ix"))
  | ((with_reducible apply go_ixH); (· walk_at "ow"); (· walk_at "ix"))
  | ((with_reducible apply go_bcT); (· walk_at "bt"))
  | ((with_reducible apply go_bcF); (· walk_at "bt"))
  | ((with_reducible apply go_methH); (· walk_at "ow"); (· walk_at "fd"))
  | ((with_reducible apply And.intro); (· walk_at "sz"))
  | ((with_reducible apply go_lm); (· walk_at "ow"))
  | ((with_reducible apply go_lm2); (· walk_at "ow"))
  | ((with_reducible apply go_app); (· walk_at "sz"))
  | ((with_reducible apply go_ext); (· walk_at "sz"))
  | ((with_reducible apply go_setF); (· walk_at "ow"))
  | ((with_reducible apply go_frz); (· walk_at "ow"))
  | ((with_reducible apply go_atK); (· walk_at "val"))
  | ((with_reducible apply go_atS); (· walk_at "val"))
  | ((with_reducible apply go_atI); (· walk_at "val"))
  | ((with_reducible apply go_atHK); (· walk_at "ow"); (· walk_at "val"))
  | ((with_reducible apply go_atHS); (· walk_at "ow"); (· walk_at "val"))
  | ((with_reducible apply go_dputS); (· walk_at "ow"); (· walk_at "sz"))
  | ((with_reducible apply go_dputK); (· walk_at "ow"); (· walk_at "sz"))
  | (with_reducible apply go_eqI)
  | (with_reducible apply go_eqS)
  | (with_reducible apply go_eqB)
  | (with_reducible apply go_neg)
  | (with_reducible apply go_lenL)
  | (with_reducible apply go_lenT)
  | ((with_reducible apply go_lenS); (· walk_at "sz"))
  | ((with_reducible apply go_lenH); (· walk_at "ow"))
  | (with_reducible apply go_tupL)
  | (with_reducible apply go_tupT)
  | ((with_reducible apply go_tupH); (· walk_at "ow"))
  | (with_reducible apply go_listL)
  | (with_reducible apply go_listT)
  | ((with_reducible apply go_listH); (· walk_at "ow"))
  | (with_reducible apply go_all)
  | (with_reducible apply go_any)
  | ((with_reducible apply go_isi); (· exact rfl); (· walk_at "ty"); (· walk_at "val"))
  | ((with_reducible apply go_inS); (· exact rfl))
  | ((with_reducible apply go_inSL); (· exact rfl))
  | ((with_reducible apply go_sortS); (· walk_at "sz"))
  | (with_reducible apply go_own)
  | (with_reducible apply go_pnil)
  | (with_reducible apply go_pcons)
  | ((with_reducible apply go_lcNil); (· exact trivial))
  | (with_reducible apply go_lcCons)
  | (with_reducible apply go_min2)
  | walk_at "call")
local macro_rules | `(tactic| walk_at "go") => `(tactic| (walk_at "wh"; repeat (walk_at "go1"; walk_at "wh")))
local macro_rules | `(tactic| walk_at "all") => `(tactic| (walk_at "wh"; repeat ((first | walk_at "go1" | (with_reducible refine go_st fun _ _ => ?_) | (with_reducible apply goN; (· assumption))); walk_at "wh")))
/-- a word's text -/
def wtx : D → Str
  | .str y => y
  | .int i => Str.ofString (toString i)
  | _ => ""
def Wrd : D → Prop
  | .str y => y.length ≤ 1000
  | .int i => i.natAbs.log2 < 1920
  | _ => False
abbrev spl (l : Str) : List Str := Txt.split l " "
def textX (C : Addr) (i : Nat) : Xc := (C, errD "InvalidText" ["line"] [.int i])
def LinesOk (lines : List Str) : Prop := lines.length ≤ 100000 ∧ ∀ l ∈ lines, l.length ≤ 900
def isNonR : D → Bool
  | .non => true
  | _ => false
section
variable {P : Program} {w : World} {K : PySem.W.Frag} {mg : Str → Option Value} {base : Heap}
theorem len_sum : ∀ xs : List Str, (∀ y ∈ xs, y.length ≤ 1000) → (xs.map (·.length)).sum ≤ 1000 * xs.length := fun xs => by
  induction xs with
  | nil => intro _; exact Nat.zero_le _
  | cons x r ih =>
    intro h
    have := ih fun y hy => h y (List.mem_cons_of_mem _ hy)
    have := h x (by simp)
    simp only [List.map_cons, List.sum_cons, List.length_cons]
    omega
theorem go_joinS {xs : List Str} {R : D → Prop} {sep : Str} (hs : (xs.map (·.length)).sum + xs.length ≤ 16777216) (h1 : sep.length = 1) (q : R (.str (Txt.join sep xs))) : joinD sep (.lst (xs.map D.str)) R := by
  show joinOn _ _ _
  unfold joinOn
  rw [toSs_map (fun x => x), List.map_id']
  refine ⟨?_, q⟩
  rw [h1]
  omega
theorem spl_ne (l : Str) : ∃ a r, spl l = a :: r := by
  cases h : spl l with
  | nil =>
    have := split_pos l " "
    rw [show Txt.split l " " = [] from h] at this
    exact absurd this (by decide)
  | cons a r => exact ⟨a, r, rfl⟩
theorem mem_sum {l : List Nat} {a : Nat} (h : a ∈ l) : a ≤ l.sum := by
  induction l with
  | nil => cases h
  | cons b r ih =>
    rw [List.sum_cons]
    rcases List.mem_cons.mp h with rfl | h
    · omega
    · have := ih h; omega
theorem spl_len {l a : Str} (h : a ∈ spl l) : a.length ≤ l.length := by
  have h1 := split_weight l " " (by decide +kernel)
  have h2 := split_pos l " "
  have h3 : a.length ≤ ((Txt.split l " ").map (·.length)).sum := mem_sum (List.mem_map.mpr ⟨a, h, rfl⟩)
  omega
theorem spl_many (l : Str) : (spl l).length ≤ l.length + 1 := by
  have h1 := split_weight l " " (by decide +kernel)
  show (Txt.split l " ").length ≤ _
  omega
theorem call_numP {y : Str} {O : Ow} {Q : QD} {E : QX} (h : y.length ≤ 900) (q : Q (onD (numP y)) O) : spM numInP [.str y] O Q E := spM.of ⟨y, rfl, szk' (by omega), q⟩
theorem in_non {ds : List D} {R : D → Prop} (hn : nzs ds = true) (hd : dps ds ≤ 60) (q : R (.bl (ds.any isNonR))) : inLTD .non (.lst ds) R := by
  obtain ⟨ys, e, l, d⟩ := toPs_nz hn
  refine ⟨ds, .inl rfl, .none, ys, rfl, e, rfl, ?_, ?_⟩
  · exact shp_nz (d := .lst ds) (by simpa [nz] using hn) (by show dps ds + 1 ≤ 64; omega) (by rw [toP, e]; rfl)
  · have : (ys.any fun z => PyData.eqv z .none) = ds.any isNonR := by
      clear q l d hd
      induction ds generalizing ys with
      | nil => cases e; rfl
      | cons x xs ih =>
        rw [nzs, Bool.and_eq_true] at hn
        rw [toPs] at e
        cases ex : toP x with
        | none => rw [ex] at e; cases e
        | some px =>
          cases exs : toPs xs with
          | none => rw [ex, exs] at e; cases e
          | some pxs =>
            rw [ex, exs] at e
            cases e
            rw [List.any_cons, List.any_cons, ih hn.2 pxs exs]
            congr 1
            rw [Bool.eq_iff_iff, eqv_nz (b := .non) hn.1 rfl ex rfl]
            cases x <;> simp [isNonR]
    rw [this]; exact q
theorem sum_le {k : Nat} : ∀ {xs : List Str}, (∀ x ∈ xs, x.length ≤ k) → (xs.map (·.length)).sum ≤ xs.length * k
  | [], _ => by simp
  | x :: xs, h => by
    have := sum_le (xs := xs) fun y hy => h y (List.mem_cons_of_mem _ hy)
    have := h x (by simp)
    simp only [List.map_cons, List.sum_cons, List.length_cons, Nat.succ_mul]
    omega
theorem join_len {sep : Str} (h1 : sep.length = 1) {xs : List Str} {k : Nat} (h : ∀ x ∈ xs, x.length ≤ k) : (Txt.join sep xs).length ≤ xs.length * (k + 1) := by
  rw [show Txt.join sep xs = Str.join sep xs from StrLaws.glued_eq_join sep xs]
  have := StrLaws.join_length_le sep xs
  have := sum_le h
  rw [h1] at *
  rw [Nat.mul_succ]
  omega
def Nbw (y : Str) : Prop := 32 ∉ y.cps.toList ∧ 10 ∉ y.cps.toList ∧ y.length ≤ 20 ∧ PyData.strOk y = true
theorem nmJ_ok {y : Str} (h : isNm (.str y) = true) : PyData.strOk y = true := by
  simp only [isNm, Bool.and_eq_true, decide_eq_true_eq, List.all_eq_true] at h
  have hc : ∀ c ∈ co lettersT, c < 128 := by decide +kernel
  unfold PyData.strOk
  rw [← Array.all_toList, List.all_eq_true]
  intro c hm
  have := hc c (h.2 c hm)
  simp only [decide_eq_true_eq]
  omega
theorem nm_nbw {y : Str} (h : isNm (.str y) = true) : Nbw y := by
  have hs := nmJ_ok h
  simp only [isNm, Bool.and_eq_true, decide_eq_true_eq, List.all_eq_true] at h
  have hc : ∀ c ∈ co lettersT, c ≠ 32 ∧ c ≠ 10 := by decide +kernel
  exact ⟨fun hm => (hc _ (h.2 _ hm)).1 rfl, fun hm => (hc _ (h.2 _ hm)).2 rfl, by omega, hs⟩
theorem num_nbw {n : Nat} (h : n ≤ 20000) : Nbw (numW n) := by
  have e : co (numW n) = TL.numL n := TL.tl_num n
  have hd := TL.numL_digits n
  have hl := TL.numL_len (k := 15) (n := n) (by decide) (Nat.lt_of_le_of_lt h (by decide))
  refine ⟨fun hm => ?_, fun hm => ?_, ?_, ?_⟩
  · have hm : 32 ∈ co (numW n) := hm
    rw [e] at hm
    have := hd 32 hm; omega
  · have hm : 10 ∈ co (numW n) := hm
    rw [e] at hm
    have := hd 10 hm; omega
  · have : (numW n).length = (TL.numL n).length := by rw [TL.len_tl]; exact congrArg List.length e
    omega
  · unfold PyData.strOk
    rw [← Array.all_toList, List.all_eq_true]
    intro c hm
    have hm : c ∈ co (numW n) := hm
    rw [e] at hm
    have := hd c hm
    simp only [decide_eq_true_eq]
    omega
theorem wtx_nat (n : Nat) : wtx (.int n) = numW n := rfl
theorem join_split {ws : List Str} {c : Nat} {sep : Str} (hs : sep = ⟨#[c]⟩) (hc : c < 256) (hne : ws ≠ []) (h : ∀ y ∈ ws, c ∉ y.cps.toList) : Txt.split (Txt.join sep ws) sep = ws := by
  subst hs
  exact TL.split_join (y := ⟨#[c]⟩) (s := c) (S := []) rfl (by simp [hc]) hne h
theorem sep_sp : (" " : Str) = ⟨#[32]⟩ := by decide +kernel
theorem sep_nl : ("\n" : Str) = ⟨#[10]⟩ := by decide +kernel
theorem spl_join {ws : List Str} (hne : ws ≠ []) (h : ∀ y ∈ ws, Nbw y) : spl (Txt.join " " ws) = ws := join_split sep_sp (by decide) hne fun y hy => (h y hy).1
theorem mem_join {sep : Str} {c : Nat} : ∀ {ws : List Str}, c ∈ (Str.join sep ws).cps.toList → c ∈ sep.cps.toList ∨ ∃ y ∈ ws, c ∈ y.cps.toList
  | [], h => by cases h
  | [a], h => .inr ⟨a, by simp, h⟩
  | a :: b :: r, h => by
    have e : Str.join sep (a :: b :: r) = (a ++ sep) ++ Str.join sep (b :: r) := rfl
    have h : c ∈ co ((a ++ sep) ++ Str.join sep (b :: r)) := h
    rw [co_app, co_app, List.mem_append, List.mem_append] at h
    rcases h with (h | h) | h
    · exact .inr ⟨a, by simp, h⟩
    · exact .inl h
    · rcases mem_join (ws := b :: r) h with h | ⟨y, hy, h⟩
      · exact .inl h
      · exact .inr ⟨y, List.mem_cons_of_mem _ hy, h⟩
end
end LW
set_option Elab.async false
set_option linter.all false
set_option maxRecDepth 100000
set_option maxHeartbeats 1500000
set_option pp.maxSteps 1200
namespace LW
open PySem PySem.Spec PyProof.Rows L2 EV PySem.XO PySem.W LamX
local macro_rules | `(tactic| walk_at "fd") => `(tactic| first | assumption | rfl)
local macro_rules | `(tactic| walk_at "ow") => `(tactic| first | assumption | exact oset_self | (rw [oset_ne (by assumption)]; walk_at "ow") | (rw [oset_ne (Ne.symm (by assumption))]; walk_at "ow"))
local macro_rules | `(tactic| walk_at "ix") => `(tactic| first | exact EV.ga0 | exact EV.ga1 | exact EV.ga2 | exact EV.ga3 | exact EV.ga4 | exact EV.ga5 | exact EV.ga6 | exact EV.ga7 | exact EV.ga8 | exact EV.ga9 | exact EV.ga10 | exact EV.ga11 | exact EV.ga12 | exact EV.ga13 | exact EV.ga14 | exact EV.ga15 | assumption | rfl)
local macro_rules | `(tactic| walk_at "sz") => `(tactic| first | exact trivial | (with_reducible assumption) | omega | ((with_reducible refine szR ?_); exact rfl) | ((with_reducible refine szk' ?_); omega) | ((with_reducible refine szl ?_); omega) | exact szlt rfl | rfl | exact ⟨rfl, by assumption⟩ | exact ⟨rfl, rfl⟩ | exact ⟨_, rfl⟩ | ((with_reducible refine szk' ?_); simp only [List.length_cons, List.length_nil, List.length_append, List.length_map]; omega) | (unfold CMul; omega) | (unfold CDiv; omega) | (unfold CPow; exact ⟨by omega, by omega, by omega⟩) | (constructor; · omega; · omega))
local macro_rules | `(tactic| walk_at "val") => `(tactic| first | assumption | exact rfl)
local macro_rules | `(tactic| walk_at "ty") => `(tactic| first | assumption | exact rfl)
local macro_rules | `(tactic| walk_at "bt") => `(tactic| first | exact rfl | assumption)
local macro_rules | `(tactic| walk_at "n") => `(tactic| refine st_norm (by simp only [List.set_cons_succ, List.set_cons_zero]; rfl) ?_)
local macro_rules | `(tactic| walk_at "wh") => `(tactic| with_reducible conv => whnf)
local macro_rules | `(tactic| walk_at "call") => `(tactic| fail)
local macro_rules | `(tactic| walk_at "go1") => `(tactic| first
  | ((with_reducible apply go_var); (· exact rfl))
  | ((with_reducible apply go_varF); (· exact rfl); (· walk_at "ow"))
  | ((with_reducible apply go_set); (· (simp only [wipeD, List.map_cons, List.map_nil, List.set_cons_succ, List.set_cons_zero]; rfl)))
  | ((with_reducible apply go_fld); (· walk_at "fd"))
  | ((with_reducible apply go_fldH); (· walk_at "ow"); (· walk_at "fd"))
  | ((with_reducible apply go_ixT); (· walk_at "ix"))
  | ((with_reducible apply go_ixL); (· walk_at "ix"))
  | ((with_reducible apply go_ixH); (· walk_at "ow"); (· walk_at "ix"))
  | ((with_reducible apply go_bcT); (· walk_at "bt"))
  | ((with_reducible apply go_bcF); (· walk_at "bt"))
  | ((with_reducible apply go_methH); (· walk_at "ow"); (· walk_at "fd"))
  | ((with_reducible apply And.intro); (· walk_at "sz"))
  | ((with_reducible apply go_lm); (· walk_at "ow"))
  | ((with_reducible apply go_lm2); (· walk_at "ow"))
  | ((with_reducible apply go_app); (· walk_at "sz"))
  | ((with_reducible apply go_ext); (· walk_at "sz"))
  | ((with_reducible apply go_setF); (· walk_at "ow"))
  | ((with_reducible apply go_frz); (· walk_at "ow"))
  | ((with_reducible apply go_atK); (· walk_at "val"))
  | ((with_reducible apply go_atS); (· walk_at "val"))
  | ((with_reducible apply go_atI); (· walk_at "val"))
  | ((with_reducible apply go_atHK); (· walk_at "ow"); (· walk_at "val"))
  | ((with_reducible apply go_atHS); (· walk_at "ow"); (· walk_at "val"))
  | ((with_reducible apply go_dputS); (· walk_at "ow"); (· walk_at "sz"))
  | ((with_reducible apply go_dputK); (· walk_at "ow"); (· walk_at "sz"))
  | (with_reducible apply go_eqI)
  | (with_reducible apply go_eqS)
  | (with_reducible apply go_eqB)
  | (with_reducible apply go_neg)
  | (with_reducible apply go_lenL)
  | (with_reducible apply go_lenT)
  | ((with_reducible apply go_lenS); (· walk_at "sz"))
  | ((with_reducible apply go_lenH); (· walk_at "ow"))
  | (with_reducible apply go_tupL)
  | (with_reducible apply go_tupT)
  | ((with_reducible apply go_tupH); (· walk_at "ow"))
  | (with_reducible apply go_listL)
  | (with_reducible apply go_listT)
  | ((with_reducible apply go_listH); (· walk_at "ow"))
  | (with_reducible apply go_all)
  | (with_reducible apply go_any)
  | ((with_reducible apply go_isi); (· exact rfl); (· walk_at "ty"); (· walk_at "val"))
  | ((with_reducible apply go_inS); (· exact rfl))
  | ((with_reducible apply go_inSL); (· exact rfl))
  | ((with_reducible apply go_sortS); (· walk_at "sz"))
  | (with_reducible apply go_own)
  | (with_reducible apply go_pnil)
  | (with_reducible apply go_pcons)
  | ((with_reducible apply go_lcNil); (· exact trivial))
  | (with_reducible apply go_lcCons)
  | (with_reducible apply go_min2)
  | walk_at "call")
local macro_rules | `(tactic| walk_at "go") => `(tactic| (walk_at "wh"; repeat (walk_at "go1"; walk_at "wh")))
local macro_rules | `(tactic| walk_at "all") => `(tactic| (walk_at "wh"; repeat ((first | walk_at "go1" | (with_reducible refine go_st fun _ _ => ?_) | (with_reducible apply goN; (· assumption))); walk_at "wh")))
end LW
set_option Elab.async false
set_option linter.all false
set_option maxRecDepth 100000
set_option maxHeartbeats 1500000
set_option pp.maxSteps 1200
namespace LW
open PySem PySem.Spec PyProof.Rows L2 EV PySem.XO PySem.W LamX
local macro_rules | `(tactic| walk_at "fd") => `(tactic| first | assumption | rfl)
local macro_rules | `(tactic| walk_at "ow") => `(tactic| first | assumption | exact oset_self | (rw [oset_ne (by assumption)]; walk_at "ow") | (rw [oset_ne (Ne.symm (by assumption))]; walk_at "ow"))
local macro_rules | `(tactic| walk_at "ix") => `(tactic| first | exact EV.ga0 | exact EV.ga1 | exact EV.ga2 | exact EV.ga3 | exact EV.ga4 | exact EV.ga5 | exact EV.ga6 | exact EV.ga7 | exact EV.ga8 | exact EV.ga9 | exact EV.ga10 | exact EV.ga11 | exact EV.ga12 | exact EV.ga13 | exact EV.ga14 | exact EV.ga15 | assumption | rfl)
local macro_rules | `(tactic| walk_at "sz") => `(tactic| first | exact trivial | (with_reducible assumption) | omega | ((with_reducible refine szR ?_); exact rfl) | ((with_reducible refine szk' ?_); omega) | ((with_reducible refine szl ?_); omega) | exact szlt rfl | rfl | exact ⟨rfl, by assumption⟩ | exact ⟨rfl, rfl⟩ | exact ⟨_, rfl⟩ | ((with_reducible refine szk' ?_); simp only [List.length_cons, List.length_nil, List.length_append, List.length_map]; omega) | (unfold CMul; omega) | (unfold CDiv; omega) | (unfold CPow; exact ⟨by omega, by omega, by omega⟩) | (constructor; · omega; · omega))
local macro_rules | `(tactic| walk_at "val") => `(tactic| first | assumption | exact rfl)
local macro_rules | `(tactic| walk_at "ty") => `(tactic| first | assumption | exact rfl)
local macro_rules | `(tactic| walk_at "bt") => `(tactic| first | exact rfl | assumption)
local macro_rules | `(tactic| walk_at "n") => `(tactic| refine st_norm (by simp only [List.set_cons_succ, List.set_cons_zero]; rfl) ?_)
local macro_rules | `(tactic| walk_at "wh") => `(tactic| with_reducible conv => whnf)
local macro_rules | `(tactic| walk_at "call") => `(tactic| fail)
local macro_rules | `(tactic| walk_at "go1") => `(tactic| first
  | ((with_reducible apply go_var); (· exact rfl))
  | ((with_reducible apply go_varF); (· exact rfl); (· walk_at "ow"))
  | ((with_reducible apply go_set); (· (simp only [wipeD, List.map_cons, List.map_nil, List.set_cons_succ, List.set_cons_zero]; rfl)))
  | ((with_reducible apply go_fld); (· walk_at "fd"))
  | ((with_reducible apply go_fldH); (· walk_at "ow"); (· walk_at "fd"))
  | ((with_reducible apply go_ixT); (· walk_at "ix"))
  | ((with_reducible apply go_ixL); (· walk_at "ix"))
  | ((with_reducible apply go_ixH); (· walk_at "ow"); (· walk_at "ix"))
  | ((with_reducible apply go_bcT); (· walk_at "bt"))
  | ((with_reducible apply go_bcF); (· walk_at "bt"))
  | ((with_reducible apply go_methH); (· walk_at "ow"); (· walk_at "fd"))
  | ((with_reducible apply And.intro); (· walk_at "sz"))
  | ((with_reducible apply go_lm); (· walk_at "ow"))
  | ((with_reducible apply go_lm2); (· walk_at "ow"))
  | ((with_reducible apply go_app); (· walk_at "sz"))
  | ((with_reducible apply go_ext); (· walk_at "sz"))
  | ((with_reducible apply go_setF); (· walk_at "ow"))
  | ((with_reducible apply go_frz); (· walk_at "ow"))
  | ((with_reducible apply go_atK); (· walk_at "val"))
  | ((with_reducible apply go_atS); (· walk_at "val"))
  | ((with_reducible apply go_atI); (· walk_at "val"))
  | ((with_reducible apply go_atHK); (· walk_at "ow"); (· walk_at "val"))
  | ((with_reducible apply go_atHS); (· walk_at "ow"); (· walk_at "val"))
  | ((with_reducible apply go_dputS); (· walk_at "ow"); (· walk_at "sz"))
  | ((with_reducible apply go_dputK); (· walk_at "ow"); (· walk_at "sz"))
  | (with_reducible apply go_eqI)
  | (with_reducible apply go_eqS)
  | (with_reducible apply go_eqB)
  | (with_reducible apply go_neg)
  | (with_reducible apply go_lenL)
  | (with_reducible apply go_lenT)
  | ((with_reducible apply go_lenS); (· walk_at "sz"))
  | ((with_reducible apply go_lenH); (· walk_at "ow"))
  | (with_reducible apply go_tupL)
  | (with_reducible apply go_tupT)
  | ((with_reducible apply go_tupH); (· walk_at "ow"))
  | (with_reducible apply go_listL)
  | (with_reducible apply go_listT)
  | ((with_reducible apply go_listH); (· walk_at "ow"))
  | (with_reducible apply go_all)
  | (with_reducible apply go_any)
  | ((with_reducible apply go_isi); (· exact rfl); (· walk_at "ty"); (· walk_at "val"))
  | ((with_reducible apply go_inS); (· exact rfl))
  | ((with_reducible apply go_inSL); (· exact rfl))
  | ((with_reducible apply go_sortS); (· walk_at "sz"))
  | (with_reducible apply go_own)
  | (with_reducible apply go_pnil)
  | (with_reducible apply go_pcons)
  | ((with_reducible apply go_lcNil); (· exact trivial))
  | (with_reducible apply go_lcCons)
  | (with_reducible apply go_min2)
  | walk_at "call")
local macro_rules | `(tactic| walk_at "go") => `(tactic| (walk_at "wh"; repeat (walk_at "go1"; walk_at "wh")))
local macro_rules | `(tactic| walk_at "all") => `(tactic| (walk_at "wh"; repeat ((first | walk_at "go1" | (with_reducible refine go_st fun _ _ => ?_) | (with_reducible apply goN; (· assumption))); walk_at "wh")))
def inpM : List Str → Option Nat
  | [a, b] => if decide (a = "inputs") then numP b else none
  | _ => none
def cellM : List Str → Option Nat
  | [_, b] => numP b
  | _ => none
def cellsM (inp : Nat) : List Str → List Nat → Sum Nat (List Nat)
  | [], acc => .inr acc
  | l :: ls, acc => if decide ((spl l).headD "" = "cell") = false then .inr acc else match cellM (spl l) with
    | none => .inl (1 + acc.length)
    | some m => if 10000 < m ∨ acc.length = 300 ∨ (acc.length < inp ∧ 0 < m) then .inl (1 + acc.length) else cellsM inp ls (acc ++ [m])
def readCM (lines : List Str) : Sum Nat (Nat × List Nat) := match inpM (spl (lines.headD "")) with
  | none => .inl 0
  | some i => if 300 < i then .inl 0 else match cellsM i lines.tail [] with
    | .inl e => .inl e
    | .inr cs => if cs.length < i then .inl (1 + cs.length) else .inr (i, cs)
abbrev s_read_cells : Stmt := topS 29
abbrev N_read_cells : List Str := ["lines", "words", "inputs", "cells", "at", "line", "most"]
theorem sc_read_cells : FnScope N_read_cells ["lines"] (defScope s_read_cells) := ⟨rfl, rfl, rfl, by decide +kernel, rfl, by decide +kernel, by decide +kernel⟩
abbrev s_read_step : Stmt := topS 30
abbrev N_read_step : List Str := ["lines", "at", "word", "items", "found", "kind", "item"]
theorem sc_read_step : FnScope N_read_step ["lines", "at"] (defScope s_read_step) := ⟨rfl, rfl, rfl, by decide +kernel, rfl, by decide +kernel, by decide +kernel⟩
local macro_rules | `(tactic| walk_at "call") => `(tactic| first | ((with_reducible apply go_split); (· decide +kernel); (· walk_at "sz")))
def readCS (C : Addr) : DSp := fun ds O Q E => ∃ lines : List Str, ds = [.lst (lines.map D.str)] ∧ lines ≠ [] ∧ LinesOk lines ∧ (∀ i cs, readCM lines = .inr (i, cs) → Q (.tup [.int (i : Nat), .lst (cs.map natD)]) O) ∧ ∀ e, readCM lines = .inl e → E (textX C e) O
section
variable {P : Program} {w : World} {K : PySem.W.Frag} {mg : Str → Option Value} {base : Heap}
theorem cut_tl {x : D} {xs : List D} : EV.cutD (x :: xs) (some 1) none = xs := cut1 x xs
theorem len3 (a b c : Str) (r : List Str) : decide (((List.map D.str (a :: b :: c :: r)).length : Int) = 2) = false := decide_eq_false (by simp; omega)
theorem enum_get {xs : List D} {i : Nat} {d : D} (h : (enumL xs)[i]? = some d) : ∃ y, xs[i]? = some y ∧ d = .tup [.int i, y] := by
  unfold enumL at h
  rw [List.getElem?_map, List.getElem?_zipIdx] at h
  cases e : xs[i]? with
  | none => rw [e] at h; cases h
  | some y =>
    rw [e] at h
    simp at h
    exact ⟨y, rfl, h.symm⟩
theorem ok_read_cells {f fN C : Addr} {fd fdN : FuncData} (F : Fun K "read_cells" "read_cells" s_read_cells f fd)
    (G_number_in : FnOk P w K mg base CX0 1 fN fdN ["word"] (spD K numInP)) (T_number_in : Gf K mg "number_in" fN fdN ["word"]) (m_len : mg "len" = none) (m_enumerate : mg "enumerate" = none)
    {t1 t2 : Tok} (M_MOST_CELLS : mg "MOST_CELLS" = some (.int 300 t1)) (M_MOST_RANGE : mg "MOST_RANGE" = some (.int 10000 t2))
    (E_InvalidText : Err P w K mg base 2 C "InvalidText" ["line"]) (M_InvalidText : mg "InvalidText" = some (.ref C)) :
    FnOk P w K mg base (L2.CX P w) 3 f fd ["lines"] (spD K (readCS C)) := by
  refine fn_excF F sc_read_cells (fun ds O Q E h => ?_) (fun cdv A outer s H E hr tk =>
    (d_scons (d_set (i := 1) sc_read_cells.nd rfl (.inl rfl) (d_split (d_ix (d_var (i := 0) rfl (.inl rfl) (by decide) (by decide)) d_int (fun _ _ => rfl)) d_str rfl rfl rfl) rfl (.inl rfl))
      (d_scons (d_set (i := 2) sc_read_cells.nd rfl (.inl rfl) (d_if (DPW.pt (d_wand (d_tcmp (od_eq hr.units) (d_callB cd_len rfl m_len boot_len (d_cons (d_var (i := 1) rfl (.inl rfl) (by decide) (by decide)) d_nil rfl) (by decide) (by decide) rfl rfl) d_int (nomark _)) (d_and1 (d_tcmp (od_eq hr.units) (d_ix (d_var (i := 1) rfl (.inl rfl) (by decide) (by decide)) d_int (fun _ _ => rfl)) d_str (nomark _))))) (d_call G_number_in (hr.mono (by decide)) rfl T_number_in.m T_number_in.k T_number_in.b (fun _ => pass0A) (d_cons (d_ix (d_var (i := 1) rfl (.inl rfl) (by decide) (by decide)) d_int (fun _ _ => rfl)) d_nil rfl) (by decide) rfl rfl) d_non) rfl (.inl rfl))
      (d_scons (d_ifS (DPW.pt (d_wor (d_tcmp od_is (d_var (i := 2) rfl (.inl rfl) (by decide) (by decide)) d_non (nomark _)) (d_or1 (d_tcmp od_gt (d_var (i := 2) rfl (.inl rfl) (by decide) (by decide)) (d_globI rfl M_MOST_CELLS (by decide)) (nomark _))))) (d_sone (d_raise rfl tk E_InvalidText (hr.mono (by decide)) rfl M_InvalidText (d_cons d_int d_nil rfl) (by decide) rfl rfl)) d_snil)
      (d_scons (d_set (i := 3) sc_read_cells.nd rfl (.inl rfl) (d_lstO d_nil) rfl (.inl rfl))
      (d_scons (d_for (passes_of rfl) rfl (d_enum rfl m_enumerate (d_cons (d_sl (d_var (i := 0) rfl (.inl rfl) (by decide) (by decide)) (d_part d_int) d_nopart) d_nil rfl) rfl) (dg_tup (n := 2) rfl (dgs_cons (dg_name (i := 4) sc_read_cells.nd rfl (.inl rfl) (.inl rfl)) (dgs_cons (dg_name (i := 5) sc_read_cells.nd rfl (.inl rfl) (.inl rfl)) dgs_nil rfl) rfl) rfl rfl) (d_scons (d_set (i := 1) sc_read_cells.nd rfl (.inl rfl) (d_split (d_var (i := 5) rfl (.inl rfl) (by decide) (by decide)) d_str rfl rfl rfl) rfl (.inl rfl))
      (d_scons (d_ifS (d_tcmp (od_ne hr.units) (d_ix (d_var (i := 1) rfl (.inl rfl) (by decide) (by decide)) d_int (fun _ _ => rfl)) d_str (nomark _)) (d_sone d_break) d_snil)
      (d_scons (d_set (i := 6) sc_read_cells.nd rfl (.inl rfl) (d_if (d_tcmp (od_eq hr.units) (d_callB cd_len rfl m_len boot_len (d_cons (d_var (i := 1) rfl (.inl rfl) (by decide) (by decide)) d_nil rfl) (by decide) (by decide) rfl rfl) d_int (nomark _)) (d_call G_number_in (hr.mono (by decide)) rfl T_number_in.m T_number_in.k T_number_in.b (fun _ => pass0A) (d_cons (d_ix (d_var (i := 1) rfl (.inl rfl) (by decide) (by decide)) d_int (fun _ _ => rfl)) d_nil rfl) (by decide) rfl rfl) d_non) rfl (.inl rfl))
      (d_scons (d_ifS (DPW.pt (d_wor (d_tcmp od_is (d_var (i := 6) rfl (.inl rfl) (by decide) (by decide)) d_non (nomark _)) (d_wor (d_tcmp od_gt (d_var (i := 6) rfl (.inl rfl) (by decide) (by decide)) (d_globI rfl M_MOST_RANGE (by decide)) (nomark _)) (d_wor (d_tcmp (od_eq hr.units) (d_callB cd_len rfl m_len boot_len (d_cons (d_var (i := 3) rfl (.inl rfl) (by decide) (by decide)) d_nil rfl) (by decide) (by decide) rfl rfl) (d_globI rfl M_MOST_CELLS (by decide)) (nomark _)) (d_or1 (DPW.pt (d_wand (d_tcmp od_lt (d_var (i := 4) rfl (.inl rfl) (by decide) (by decide)) (d_var (i := 2) rfl (.inl rfl) (by decide) (by decide)) (nomark _)) (d_and1 (d_tcmp od_gt (d_var (i := 6) rfl (.inl rfl) (by decide) (by decide)) d_int (nomark _)))))))))) (d_sone (d_raise rfl tk E_InvalidText (hr.mono (by decide)) rfl M_InvalidText (d_cons (d_op od_add d_int (d_var (i := 4) rfl (.inl rfl) (by decide) (by decide))) d_nil rfl) (by decide) rfl rfl)) d_snil)
      (d_sone (d_expr (d_lm lm_app (d_var (i := 3) rfl (.inl rfl) (by decide) (by decide)) (d_cons (d_var (i := 6) rfl (.inl rfl) (by decide) (by decide)) d_nil rfl) rfl rfl rfl rfl rfl) rfl)))))) (fun _ => rfl))
      (d_scons (d_ifS (d_tcmp od_lt (d_callB cd_len rfl m_len boot_len (d_cons (d_var (i := 3) rfl (.inl rfl) (by decide) (by decide)) d_nil rfl) (by decide) (by decide) rfl rfl) (d_var (i := 2) rfl (.inl rfl) (by decide) (by decide)) (nomark _)) (d_sone (d_raise rfl tk E_InvalidText (hr.mono (by decide)) rfl M_InvalidText (d_cons (d_op od_add d_int (d_callB cd_len rfl m_len boot_len (d_cons (d_var (i := 3) rfl (.inl rfl) (by decide) (by decide)) d_nil rfl) (by decide) (by decide) rfl rfl)) d_nil rfl) (by decide) rfl rfl)) d_snil)
      (d_sone (d_ret (d_tup (d_cons (d_var (i := 2) rfl (.inl rfl) (by decide) (by decide)) (d_cons (d_varF (i := 3) rfl (.inl rfl) (by decide) (by decide)) d_nil rfl) rfl))))))))))) (fun ds O Q E h => ?_)
  · obtain ⟨d, rfl, _⟩ := h; rfl
  · obtain ⟨lines, rfl, hne, ⟨hl, hw⟩, q, qx⟩ := h
    obtain ⟨l0, ls, rfl⟩ : ∃ a r, lines = a :: r := by
      cases lines with
      | nil => exact absurd rfl hne
      | cons a r => exact ⟨a, r, rfl⟩
    rw [show startD N_read_cells [.lst ((l0 :: ls).map D.str)] = [.sh (.lst (.str l0 :: ls.map D.str)), .un, .un, .un, .un, .un, .un] from rfl]
    have hl0 : l0.length ≤ 900 := hw l0 (by simp)
    have hls : ∀ l ∈ ls, l.length ≤ 900 := fun l h => hw l (by simp [h])
    have R0 : readCM (l0 :: ls) = (match inpM (spl l0) with
      | none => .inl 0
      | some i => if 300 < i then .inl 0 else match cellsM i ls [] with
        | .inl e => .inl e
        | .inr cs => if cs.length < i then .inl (1 + cs.length) else .inr (i, cs)) := rfl
    have hwn : (Txt.split l0 " ").length ≤ 901 := Nat.le_trans (spl_many l0) (by omega)
    have hws : ∀ a ∈ Txt.split l0 " ", a.length ≤ 900 := fun a ha => by have := spl_len ha; omega
    refine go_st fun N hN => ?_
    walk_at "go"
    subst hN
    revert R0 hwn hws
    show (_ = (match inpM (Txt.split l0 " ") with
      | none => _
      | some i => _)) → _ → _ → dSeq _ _ _ [_, .sh (.lst ((Txt.split l0 " ").map D.str)), .un, .un, .un, .un, .un] O
    generalize Txt.split l0 " " = ws
    intro R0 hwn hws
    refine go_st fun N hN => ?_
    have key : N [.sh (.lst (.str l0 :: ls.map D.str)), .sh (.lst (ws.map D.str)), .sh (onD (inpM ws)), .un, .un, .un, .un] O := by
      subst hN
      refine go_st fun N hN => ?_
      cases hi : inpM ws with
      | none =>
        rw [hi] at R0
        show dIfS _ _ _ _ [_, _, .sh .non, _, _, _, _] _
        walk_at "all"
        exact frg.of (qx 0 R0)
      | some inp =>
      rw [hi] at R0
      show dIfS _ _ _ _ [_, _, .sh (.int (inp : Nat)), _, _, _, _] _
      walk_at "go"
      show bc (decide ((300 : Int) < (inp : Nat))) _ _
      dsimp only at R0
      by_cases h3 : 300 < inp
      · rw [if_pos h3] at R0
        rw [decide_eq_true (by omega)]
        walk_at "all"
        exact frg.of (qx 0 R0)
      rw [if_neg h3] at R0
      rw [decide_eq_false (by omega)]
      refine bcN ?_
      subst hN
      dsimp only
      refine go_st fun N hN => ?_
      walk_at "go"
      intro p np
      walk_at "go"
      subst hN
      refine go_st fun N3 hN3 => ?_
      walk_at "go"
      refine go_slL (cut_tl (x := D.str l0) (xs := ls.map D.str)) ?_
      walk_at "go"
      obtain ⟨R, hR⟩ : ∃ R, R = cellsM inp ls [] := ⟨_, rfl⟩
      have fin : ∀ (acc : List Nat) (wd s4 s5 s6 : Sl), R = .inr acc → N3 [.sh (.lst (.str l0 :: ls.map D.str)), wd, .sh (.int (inp : Nat)), .sh (.opq (.ref p)), s4, s5, s6] (oset O p (.lst (acc.map natD))) := by
        intro acc wd s4 s5 s6 e
        rw [← hR, e] at R0
        subst hN3
        have fO : ∀ x, OSub O (oset O p x) := fun x => OSub.new np
        walk_at "go"
        show bc (decide (((acc.map natD).length : Int) < (inp : Nat))) _ _
        dsimp only at R0
        by_cases h5 : acc.length < inp
        · rw [if_pos h5] at R0
          rw [decide_eq_true (by rw [List.length_map]; omega)]
          walk_at "go"
          have := qx _ R0
          unfold textX at this
          refine ⟨O, OSub.new np, ?_⟩
          rw [show (1 : Int) + ((acc.map natD).length : Nat) = ((1 + acc.length : Nat) : Int) by rw [List.length_map]; omega]
          exact this
        · rw [if_neg h5] at R0
          rw [decide_eq_false (by rw [List.length_map]; omega)]
          walk_at "go"
          rw [odel_oset np]
          exact frg.of (q _ _ R0)
      refine go_for (enumL (ls.map D.str)) (fun i ρ O' => ∃ (s4 s5 s6 wd : Sl) (acc : List Nat), acc.length = i ∧ acc.length ≤ 300 ∧ cellsM inp (ls.drop i) acc = R ∧ ρ = [.sh (.lst (.str l0 :: ls.map D.str)), wd, .sh (.int (inp : Nat)), .sh (.opq (.ref p)), s4, s5, s6] ∧ O' = oset O p (.lst (acc.map natD))) ⟨_, _, _, _, [], rfl, by decide, hR.symm, rfl, rfl⟩ ?_ ?_
      · intro i d hd ρ O' ⟨s4, s5, s6, wd, acc, hi, h300, hc, hρ, hO⟩ N2 hN2
        subst hρ hO
        obtain ⟨y, hy, rfl⟩ := enum_get hd
        rw [List.getElem?_map] at hy
        cases hl : ls[i]? with
        | none => rw [hl] at hy; cases hy
        | some l =>
        rw [hl] at hy
        cases hy
        have hil : i < ls.length := by
          rcases Nat.lt_or_ge i ls.length with z | z
          · exact z
          · rw [List.getElem?_eq_none z] at hl; cases hl
        have hl9 : l.length ≤ 900 := hls l (List.mem_of_getElem? hl)
        have hdr : ls.drop i = l :: ls.drop (i + 1) := by
          rw [List.drop_eq_getElem_cons hil]
          rw [List.getElem?_eq_getElem hil] at hl
          rw [Option.some.inj hl]
        rw [hdr] at hc
        have hc1 : cellsM inp (l :: ls.drop (i + 1)) acc = if decide ((spl l).headD "" = "cell") = false then .inr acc else match cellM (spl l) with
          | none => .inl (1 + acc.length)
          | some m => if 10000 < m ∨ acc.length = 300 ∨ (acc.length < inp ∧ 0 < m) then .inl (1 + acc.length) else cellsM inp (ls.drop (i + 1)) (acc ++ [m]) := rfl
        rw [hc1] at hc
        obtain ⟨a, r, hspl⟩ := spl_ne l
        have hws : ∀ z ∈ spl l, z.length ≤ 900 := fun z hz => Nat.le_trans (spl_len hz) hl9
        rw [hspl] at hc hws
        have err : R = .inl (1 + acc.length) → frg E (C, errD "InvalidText" ["line"] [.int (1 + (i : Int))]) (oset O p (.lst (acc.map natD))) := fun e => by
          rw [← hR, e] at R0
          have := qx _ R0
          unfold textX at this
          rw [show ((1 + acc.length : Nat) : Int) = 1 + (i : Int) by omega] at this
          exact ⟨O, OSub.new np, this⟩
        have goOn : ∀ (m : Nat), cellsM inp (ls.drop (i + 1)) (acc ++ [m]) = R → acc.length ≠ 300 → ∀ s4 s5 s6 wd, N2 [.sh (.lst (.str l0 :: ls.map D.str)), wd, .sh (.int (inp : Nat)), .sh (.opq (.ref p)), s4, s5, s6] (oset (oset O p (.lst (acc.map natD))) p (.lst (acc.map natD ++ [D.int (m : Nat)]))) := fun m e h3 s4 s5 s6 wd =>
          hN2 _ _ ⟨s4, s5, s6, wd, acc ++ [m], by simp; omega, by simp; omega, e, rfl, by rw [oset_oset, List.map_append]; rfl⟩
        refine ⟨rfl, tg_pair [.sh (.lst (.str l0 :: ls.map D.str)), wd, .sh (.int (inp : Nat)), .sh (.opq (.ref p)), .sh (.int i), .sh (.str l), s6] rfl ?_⟩
        refine go_st fun N hN => ?_
        walk_at "go"
        rw [show Txt.split l (Str.ofString " ") = a :: r from hspl]
        subst hN
        refine go_st fun N hN => ?_
        walk_at "go"
        have hd0 : (a :: r).headD "" = a := rfl
        rw [hd0] at hc
        cases hcl : decide (a = "cell") with
        | false =>
          rw [hcl, if_pos rfl] at hc
          refine go_bcT rfl ?_
          exact fin _ _ _ _ _ hc.symm
        | true =>
        rw [hcl, if_neg (by decide)] at hc
        refine go_bcF rfl ?_
        walk_at "wh"
        subst hN
        refine go_st fun N hN => ?_
        have key : N [.sh (.lst (.str l0 :: ls.map D.str)), .sh (.lst ((a :: r).map D.str)), .sh (.int (inp : Nat)), .sh (.opq (.ref p)), .sh (.int i), .sh (.str l), .sh (onD (cellM (a :: r)))] (oset O p (.lst (acc.map natD))) := by
          subst hN
          cases hm : cellM (a :: r) with
          | none =>
            rw [hm] at hc
            show dSeq _ _ _ [_, _, _, _, _, _, .sh .non] _
            walk_at "go"
            exact err hc.symm
          | some m =>
          rw [hm] at hc
          show dSeq _ _ _ [_, _, _, _, _, _, .sh (.int (m : Nat))] _
          dsimp only at hc
          walk_at "go"
          show bc (decide ((10000 : Int) < (m : Nat))) _ _
          by_cases c1 : 10000 < m
          · rw [if_pos (.inl c1)] at hc
            rw [decide_eq_true (by omega)]
            walk_at "go"
            exact err hc.symm
          rw [decide_eq_false (by omega)]
          walk_at "go"
          show bc (decide (((acc.map natD).length : Int) = 300)) _ _
          by_cases c2 : acc.length = 300
          · rw [if_pos (.inr (.inl c2))] at hc
            rw [decide_eq_true (by rw [List.length_map]; omega)]
            walk_at "go"
            exact err hc.symm
          rw [decide_eq_false (by rw [List.length_map]; omega)]
          walk_at "go"
          show bc (decide ((i : Int) < (inp : Nat))) _ _
          by_cases c3 : i < inp
          · rw [decide_eq_true (by omega)]
            walk_at "go"
            show bc (decide ((0 : Int) < (m : Nat))) _ _
            by_cases c4 : 0 < m
            · rw [if_pos (.inr (.inr ⟨by omega, c4⟩))] at hc
              rw [decide_eq_true (by omega)]
              walk_at "go"
              exact err hc.symm
            rw [if_neg (by omega)] at hc
            rw [decide_eq_false (by omega)]
            walk_at "go"
            refine go_app (by show (acc.map natD).length < sizeLine; rw [List.length_map]; exact szl (by omega)) ?_
            walk_at "go"
            exact goOn m hc c2 _ _ _ _
          rw [if_neg (by omega)] at hc
          rw [decide_eq_false (by omega)]
          walk_at "go"
          refine go_app (by show (acc.map natD).length < sizeLine; rw [List.length_map]; exact szl (by omega)) ?_
          walk_at "go"
          exact goOn m hc c2 _ _ _ _
        clear hN hc
        match r, hws, key with
        | [], _, key =>
          walk_at "go"
          exact key
        | [b], hws, key =>
          have hb := hws b (by simp)
          walk_at "go"
          refine call_numP hb ?_
          walk_at "go"
          exact key
        | b :: c :: r, _, key =>
          walk_at "go"
          exact key
      · intro ρ O' ⟨s4, s5, s6, wd, acc, hi, h300, hc, hρ, hO⟩
        subst hρ hO
        rw [List.drop_eq_nil_of_le (by simp [enumL])] at hc
        exact fin acc _ _ _ _ hc.symm
    clear hN R0
    match ws, hwn, hws, key with
    | [], _, _, k =>
      walk_at "go"
      exact k
    | [a], _, _, k =>
      walk_at "go"
      exact k
    | [a, b], _, hws, k =>
      have hb := hws b (by simp)
      walk_at "go"
      show bc (decide (a = "inputs")) _ _
      have e : inpM [a, b] = if decide (a = "inputs") then numP b else none := rfl
      rw [e] at k
      cases h : decide (a = "inputs") with
      | false =>
        rw [h] at k
        walk_at "go"
        exact k
      | true =>
        rw [h] at k
        walk_at "go"
        refine call_numP hb ?_
        walk_at "go"
        exact k
    | a :: b :: c :: r, _, _, k =>
      walk_at "go"
      exact k
def itemR (k : Nat) (it : Str) : D := if k = 116 then .str it else onD (numP it)
def strOkR : D → Bool
  | .str y => isNm (.str y)
  | _ => true
/-- a line's row, by its form alone -/
def rowM : List Str → Option (List D)
  | z :: its => match formsT.lookup z with
    | some (.str fm) => if its.length = fm.length then (if ((co fm).zipWith itemR its).any isNonR || !((co fm).zipWith itemR its).all strOkR then none else some (.str z :: (co fm).zipWith itemR its)) else none
    | _ => none
  | [] => none
def readSS (C : Addr) : DSp := fun ds O Q E => ∃ (lines : List Str) (i : Nat) (l : Str), ds = [.lst (lines.map D.str), .int i] ∧ lines[i]? = some l ∧ l.length ≤ 900 ∧ (∀ z ∈ spl l, PyData.strOk z = true) ∧ (∀ r, rowM (spl l) = some r → Q (.tup r) O) ∧ (rowM (spl l) = none → E (textX C i) O)
def rowF : D → D
  | .tup [.str k, .str it] => itemR ((co k).headD 0) it
  | _ => .non
def strsR (ds : List D) : List Str := ds.filterMap fun d => match d with
  | .str y => some y
  | _ => none
theorem all_strs : ∀ ds : List D, ((strsR ds).all fun y => isNm (.str y)) = ds.all strOkR
  | [] => rfl
  | d :: ds => by
    have ih := all_strs ds
    unfold strsR at ih ⊢
    cases d <;> simp [List.filterMap_cons, strOkR, ih]
theorem fm_strs : ∀ ds : List D, (ds.filterMap fun d => match d with
  | .str y => some (D.bl (isNm (.str y)))
  | _ => none) = (strsR ds).map fun y => D.bl (isNm (.str y))
  | [] => rfl
  | d :: ds => by
    have ih := fm_strs ds
    unfold strsR at ih ⊢
    cases d <;> simp [List.filterMap_cons, ih]
theorem row_map (fm : Str) (its : List Str) : (zipL (charsD fm) (its.map D.str)).map rowF = (co fm).zipWith itemR its := by
  rw [zipL_chars, List.map_map, List.zip_map_right, List.map_map, List.zip, List.map_zipWith]
  congr 1
theorem item_nz {k : Nat} {it : Str} (h : PyData.strOk it = true) : nz (itemR k it) = true ∧ dp (itemR k it) = 0 ∧ (itemR k it = .str it ∨ ∃ n, itemR k it = onD n) := by
  unfold itemR
  split
  · exact ⟨h, rfl, .inl rfl⟩
  · refine ⟨?_, ?_, .inr ⟨_, rfl⟩⟩ <;> cases numP it <;> rfl
theorem zip_mem {f : Nat → Str → D} {P : D → Prop} : ∀ {ks : List Nat} {its : List Str}, (∀ k, ∀ it ∈ its, P (f k it)) → ∀ d ∈ ks.zipWith f its, P d
  | [], _, _, d, hd => by simp at hd
  | _ :: _, [], _, d, hd => by simp at hd
  | k :: ks, it :: its, h, d, hd => by
    rw [List.zipWith_cons_cons] at hd
    rcases List.mem_cons.mp hd with rfl | hd
    · exact h k it (by simp)
    · exact zip_mem (fun k x hx => h k x (by simp [hx])) d hd
theorem go_inK {ad : Addr} {kvs : List (Str × D)} {f : Bool → Bool} {z : Str} {b : Bool} {Q : D → Prop} (e : (kvs.lookup z).isSome = b) (h : Q (.bl (f b))) : inK ad kvs f (.str z) (.opq (.ref ad)) Q := ⟨rfl, by rw [e]; exact h⟩
theorem go_ixK {ad : Addr} {kvs : List (Str × D)} {z : Str} {d : D} {Q : D → Prop} (e : kvs.lookup z = some d) (h : Q d) : ixK ad kvs (.opq (.ref ad)) (.str z) Q := ⟨rfl, by rw [e]; exact h⟩
theorem ok_read_step {f fN fM C aF : Addr} {fd fdN fdM : FuncData} (F : Fun K "read_step" "read_step" s_read_step f fd)
    (G_number_in : FnOk P w K mg base CX0 1 fN fdN ["word"] (spD K numInP)) (T_number_in : Gf K mg "number_in" fN fdN ["word"])
    (G_is_name : FnOk P w K mg base CX0 1 fM fdM ["value"] (spD K nameS)) (T_is_name : Gf K mg "is_name" fM fdM ["value"]) (m_len : mg "len" = none) (m_zip : mg "zip" = none) (m_all : mg "all" = none) (m_isinstance : mg "isinstance" = none) (m_str : mg "str" = none)
    (M_FORMS : mg "FORMS" = some (.ref aF)) (T_FORMS : TabK K w aF formsT)
    (E_InvalidText : Err P w K mg base 2 C "InvalidText" ["line"]) (M_InvalidText : mg "InvalidText" = some (.ref C)) :
    FnOk P w K mg base (L2.CX P w) 3 f fd ["lines", "at"] (spD K (readSS C)) := by
  refine fn_exc F sc_read_step (fun ds O Q E h => ?_) (fun cdv A outer s H E hr tk =>
    (d_scons (d_asgSt (i := 2) (j := 3) rfl sc_read_step.nd rfl rfl (.inl rfl) (.inl rfl) (.inl rfl) (.inl rfl) (d_split (d_ix (d_var (i := 0) rfl (.inl rfl) (by decide) (by decide)) (d_var (i := 1) rfl (.inl rfl) (by decide) (by decide)) (fun _ _ => rfl)) d_str rfl rfl rfl) rfl rfl rfl rfl)
      (d_scons (d_ifS (DPW.pt (d_wor (d_tcmp (od_notinK T_FORMS) (d_var (i := 2) rfl (.inl rfl) (by decide) (by decide)) (d_gdict rfl M_FORMS (by decide)) rfl) (d_or1 (d_tcmp (od_ne hr.units) (d_callB cd_len rfl m_len boot_len (d_cons (d_var (i := 3) rfl (.inl rfl) (by decide) (by decide)) d_nil rfl) (by decide) (by decide) rfl rfl) (d_callB cd_len rfl m_len boot_len (d_cons (d_ixK T_FORMS (d_gdict rfl M_FORMS (by decide)) (d_var (i := 2) rfl (.inl rfl) (by decide) (by decide)) (fun _ _ => rfl)) d_nil rfl) (by decide) (by decide) rfl rfl) (nomark _))))) (d_sone (d_raise rfl tk E_InvalidText (hr.mono (by decide)) rfl M_InvalidText (d_cons (d_var (i := 1) rfl (.inl rfl) (by decide) (by decide)) d_nil rfl) (by decide) rfl rfl)) d_snil)
      (d_scons (d_setLc (i := 4) rfl sc_read_step.nd rfl rfl (sw_true rfl rfl rfl (by decide +kernel)) (d_zip rfl m_zip (d_cons (d_ixK T_FORMS (d_gdict rfl M_FORMS (by decide)) (d_var (i := 2) rfl (.inl rfl) (by decide) (by decide)) (fun _ _ => rfl)) (d_cons (d_var (i := 3) rfl (.inl rfl) (by decide) (by decide)) d_nil rfl) rfl) rfl rfl) (blkOk_by (own := [("kind", 5), ("item", 6)]) (N := N_read_step) (sc := defScope s_read_step) (by decide +kernel)) (fun _ _ _ _ _ => (dg_tup (n := 2) rfl (dgs_cons (dg_name (i := 5) sc_read_step.nd rfl (.inl rfl) (.inr rfl)) (dgs_cons (dg_name (i := 6) sc_read_step.nd rfl (.inl rfl) (.inr rfl)) dgs_nil rfl) rfl) rfl rfl)) (fun _ _ _ _ _ => d_ifs0) (fun _ _ _ _ _ => (d_if (d_tcmp (od_eq hr.units) (d_var (i := 5) rfl (.inl rfl) (by decide) (by decide)) d_str (nomark _)) (d_var (i := 6) rfl (.inl rfl) (by decide) (by decide)) (d_call G_number_in (hr.mono (by decide)) rfl T_number_in.m T_number_in.k T_number_in.b (fun _ => pass0A) (d_cons (d_var (i := 6) rfl (.inl rfl) (by decide) (by decide)) d_nil rfl) (by decide) rfl rfl))) (by decide +kernel) (fun _ => rfl))
      (d_scons (d_ifS (DPW.pt (d_wor (d_tcmp (od_inLT (hu1 hr)) d_non (d_var (i := 4) rfl (.inl rfl) (by decide) (by decide)) rfl) (d_or1 (d_tnot (d_test (d_callB (cd_all rfl) rfl m_all boot_all (d_cons (d_lc rfl sc_read_step.nd (d_iter (d_var (i := 4) rfl (.inl rfl) (by decide) (by decide))) (blkOk_by (own := [("item", 6)]) (N := N_read_step) (sc := defScope s_read_step) (by decide +kernel)) (fun _ _ _ _ _ => (dg_name (i := 6) sc_read_step.nd rfl (.inl rfl) (.inr rfl))) (fun _ _ _ _ _ => (d_ifs1 (d_test (d_callB cd_isi rfl m_isinstance boot_isinstance (d_cons (d_var (i := 6) rfl (.inl rfl) (by decide) (by decide)) (d_cons (d_ty rfl m_str boot_str (by decide) (by decide)) d_nil rfl) rfl) (by decide) (by decide) rfl rfl) (by intro _; rfl)))) (fun _ _ _ _ _ => (d_call G_is_name (hr.mono (by decide)) rfl T_is_name.m T_is_name.k T_is_name.b (fun _ => pass0A) (d_cons (d_var (i := 6) rfl (.inl rfl) (by decide) (by decide)) d_nil rfl) (by decide) rfl rfl)) (by decide +kernel) (fun _ => rfl)) d_nil rfl) (by decide) (by decide) rfl rfl) (by intro _; rfl)))))) (d_sone (d_raise rfl tk E_InvalidText (hr.mono (by decide)) rfl M_InvalidText (d_cons (d_var (i := 1) rfl (.inl rfl) (by decide) (by decide)) d_nil rfl) (by decide) rfl rfl)) d_snil)
      (d_sone (d_ret (d_tup (d_cons (d_var (i := 2) rfl (.inl rfl) (by decide) (by decide)) (d_star (d_var (i := 4) rfl (.inl rfl) (by decide) (by decide)) d_nil rfl) rfl))))))))) (fun ds O Q E h => ?_)
  · obtain ⟨_, _, _, rfl, _⟩ := h; rfl
  · obtain ⟨lines, i, l, rfl, hl, hl9, hok, q, qx⟩ := h
    obtain ⟨z, its, hspl⟩ := spl_ne l
    have hws : ∀ z ∈ spl l, z.length ≤ 900 := fun z hz => Nat.le_trans (spl_len hz) hl9
    have hwn : (spl l).length ≤ 901 := Nat.le_trans (spl_many l) (by omega)
    rw [hspl] at q qx hws hwn hok
    rw [show startD N_read_step [.lst (lines.map D.str), .int i] = [.sh (.lst (lines.map D.str)), .sh (.int i), .un, .un, .un, .un, .un] from rfl]
    have h0 : atI (lines.map D.str) (i : Nat) = some (.str l) := atI_nat (by rw [List.getElem?_map, hl]; rfl)
    walk_at "go"
    rw [show Txt.split l (Str.ofString " ") = z :: its from hspl]
    refine go_stD (ρ' := [.sh (.lst (lines.map D.str)), .sh (.int i), .sh (.str z), .sh (.lst (its.map D.str)), .un, .un, .un]) (by rw [List.length_map]; simp at hwn; omega) rfl ?_
    walk_at "go"
    cases hf : formsT.lookup z with
    | none =>
      have e : rowM (z :: its) = none := by simp [rowM, hf]
      refine go_inK (b := false) (by rw [hf]; rfl) ?_
      walk_at "go"
      exact qx e
    | some dm =>
    obtain ⟨fm, rfl, hfm⟩ := forms_str z dm hf
    have e0 : rowM (z :: its) = if its.length = fm.length then (if ((co fm).zipWith itemR its).any isNonR || !((co fm).zipWith itemR its).all strOkR then none else some (.str z :: (co fm).zipWith itemR its)) else none := by simp [rowM, hf]
    rw [e0] at q qx
    refine go_inK (b := true) (by rw [hf]; rfl) ?_
    walk_at "go"
    refine go_ixK hf ?_
    walk_at "go"
    show bc (!decide (((its.map D.str).length : Int) = (fm.length : Nat))) _ _
    by_cases hln : its.length = fm.length
    rotate_left
    · rw [if_neg hln] at qx
      rw [decide_eq_false (by rw [List.length_map]; omega)]
      walk_at "go"
      exact qx rfl
    rw [if_pos hln] at q qx
    rw [decide_eq_true (by rw [List.length_map]; omega)]
    walk_at "go"
    refine go_ixK hf ?_
    walk_at "go"
    change lcW tt1 _ _ _ _ (zipL (charsD fm) (its.map D.str)) [] O _
    have hwn1 : its.length ≤ 900 := by simp at hwn; omega
    have hlz : (zipL (charsD fm) (its.map D.str)).length ≤ 900 := by
      rw [zipL_chars, List.length_map, List.length_zip, List.length_map]; omega
    refine go_lc rowF (fun d hd Qy k => ?_) (by show 0 + _ ≤ sizeLine; exact szk' (by omega)) ?_
    · rw [zipL_chars] at hd
      obtain ⟨⟨c, x⟩, hm, rfl⟩ := List.mem_map.mp hd
      obtain ⟨it, hit, rfl⟩ := List.mem_map.mp (List.of_mem_zip hm).2
      have hi9 := hws it (by simp [hit])
      have k : Qy (itemR c it) O := k
      refine ⟨rfl, tg_pair [.sh (.lst (lines.map D.str)), .sh (.int i), .sh (.str z), .sh (.lst (its.map D.str)), .un, .sh (.str ⟨#[c]⟩), .sh (.str it)] rfl ?_⟩
      unfold itemR at k
      walk_at "go"
      show bc (decide ((⟨#[c]⟩ : Str) = "t")) _ _
      rw [one_t]
      by_cases h : c = 116
      · rw [if_pos h] at k
        rw [decide_eq_true h]
        walk_at "go"
        exact k
      · rw [if_neg h] at k
        rw [decide_eq_false h]
        walk_at "go"
        refine call_numP hi9 ?_
        walk_at "go"
        exact k
    rw [List.nil_append, row_map]
    have hL : ((co fm).zipWith itemR its).length ≤ 900 := by rw [List.length_zipWith]; omega
    have hR := zip_mem (f := itemR) (P := fun d => nz d = true ∧ dp d = 0 ∧ ((∃ it, it.length ≤ 900 ∧ d = .str it) ∨ ∃ n, d = onD n)) (ks := co fm) (its := its) fun k it hit => by
      obtain ⟨a, b, c⟩ := item_nz (k := k) (hok it (by simp [hit]))
      refine ⟨a, b, ?_⟩
      rcases c with c | c
      · exact .inl ⟨it, hws it (by simp [hit]), c⟩
      · exact .inr c
    generalize (co fm).zipWith itemR its = found at *
    walk_at "go"
    refine in_non (nzs_all.mpr fun d hd => (hR d hd).1) (dps_le.mpr fun d hd => by rw [(hR d hd).2.1]; exact Nat.zero_le _) ?_
    walk_at "go"
    cases hn : found.any isNonR with
    | true =>
      rw [hn] at qx
      walk_at "go"
      exact qx rfl
    | false =>
    rw [hn, Bool.false_or] at q qx
    walk_at "go"
    change lcW tt1 _ _ _ _ found [] O _
    refine lcW_fm (I := tt1) trivial (fun d => match d with
      | .str y => some (D.bl (isNm (.str y)))
      | _ => none) (fun d hd Qy Qs h1 h2 => ?_) (by show 0 + found.length ≤ sizeLine; exact szk' (by omega)) ?_
    · rcases (hR d hd).2.2 with ⟨it, hi9, rfl⟩ | ⟨n, rfl⟩
      · have h1 := h1 _ rfl
        unfold elW
        walk_at "go"
        refine spM.of ⟨_, rfl, rfl, fun y hy => by cases hy; exact szk' (by omega), ?_⟩
        exact h1
      · cases n with
        | none =>
          have h2 := h2 rfl
          unfold elW onD
          walk_at "go"
          exact h2
        | some n =>
          have h2 := h2 rfl
          unfold elW onD
          walk_at "go"
          exact h2
    rw [List.nil_append, fm_strs]
    walk_at "go"
    rw [all_strs]
    cases ha : found.all strOkR with
    | false =>
      rw [ha] at qx
      walk_at "go"
      exact qx rfl
    | true =>
    rw [ha] at q
    walk_at "go"
    have := q _ rfl
    rw [List.append_nil]
    exact this
end
end LW
set_option Elab.async false
set_option linter.all false
set_option maxRecDepth 100000
set_option maxHeartbeats 1500000
set_option pp.maxSteps 1200
namespace LW
open PySem PySem.Spec PyProof.Rows L2 EV PySem.XO PySem.W LamX
local macro_rules | `(tactic| walk_at "fd") => `(tactic| first | assumption | rfl)
local macro_rules | `(tactic| walk_at "ow") => `(tactic| first | assumption | exact oset_self | (rw [oset_ne (by assumption)]; walk_at "ow") | (rw [oset_ne (Ne.symm (by assumption))]; walk_at "ow"))
local macro_rules | `(tactic| walk_at "ix") => `(tactic| first | exact EV.ga0 | exact EV.ga1 | exact EV.ga2 | exact EV.ga3 | exact EV.ga4 | exact EV.ga5 | exact EV.ga6 | exact EV.ga7 | exact EV.ga8 | exact EV.ga9 | exact EV.ga10 | exact EV.ga11 | exact EV.ga12 | exact EV.ga13 | exact EV.ga14 | exact EV.ga15 | assumption | rfl)
local macro_rules | `(tactic| walk_at "sz") => `(tactic| first | exact trivial | (with_reducible assumption) | omega | ((with_reducible refine szR ?_); exact rfl) | ((with_reducible refine szk' ?_); omega) | ((with_reducible refine szl ?_); omega) | exact szlt rfl | rfl | exact ⟨rfl, by assumption⟩ | exact ⟨rfl, rfl⟩ | exact ⟨_, rfl⟩ | ((with_reducible refine szk' ?_); simp only [List.length_cons, List.length_nil, List.length_append, List.length_map]; omega) | (unfold CMul; omega) | (unfold CDiv; omega) | (unfold CPow; exact ⟨by omega, by omega, by omega⟩) | (constructor; · omega; · omega))
local macro_rules | `(tactic| walk_at "val") => `(tactic| first | assumption | exact rfl)
local macro_rules | `(tactic| walk_at "ty") => `(tactic| first | assumption | exact rfl)
local macro_rules | `(tactic| walk_at "bt") => `(tactic| first | exact rfl | assumption)
local macro_rules | `(tactic| walk_at "n") => `(tactic| refine st_norm (by simp only [List.set_cons_succ, List.set_cons_zero]; rfl) ?_)
local macro_rules | `(tactic| walk_at "wh") => `(tactic| with_reducible conv => whnf)
local macro_rules | `(tactic| walk_at "call") => `(tactic| fail)
local macro_rules | `(tactic| walk_at "go1") => `(tactic| first
  | ((with_reducible apply go_var); (· exact rfl))
  | ((with_reducible apply go_varF); (· exact rfl); (· walk_at "ow"))
  | ((with_reducible apply go_set); (· (simp only [wipeD, List.map_cons, List.map_nil, List.set_cons_succ, List.set_cons_zero]; rfl)))
  | ((with_reducible apply go_fld); (· walk_at "fd"))
  | ((with_reducible apply go_fldH); (· walk_at "ow"); (· walk_at "fd"))
  | ((with_reducible apply go_ixT); (· walk_at "ix"))
  | ((with_reducible apply go_ixL); (· walk_at "ix"))
  | ((with_reducible apply go_ixH); (· walk_at "ow"); (· walk_at "ix"))
  | ((with_reducible apply go_bcT); (· walk_at "bt"))
  | ((with_reducible apply go_bcF); (· walk_at "bt"))
  | ((with_reducible apply go_methH); (· walk_at "ow"); (· walk_at "fd"))
  | ((with_reducible apply And.intro); (· walk_at "sz"))
  | ((with_reducible apply go_lm); (· walk_at "ow"))
  | ((with_reducible apply go_lm2); (· walk_at "ow"))
  | ((with_reducible apply go_app); (· walk_at "sz"))
  | ((with_reducible apply go_ext); (· walk_at "sz"))
  | ((with_reducible apply go_setF); (· walk_at "ow"))
  | ((with_reducible apply go_frz); (· walk_at "ow"))
  | ((with_reducible apply go_atK); (· walk_at "val"))
  | ((with_reducible apply go_atS); (· walk_at "val"))
  | ((with_reducible apply go_atI); (· walk_at "val"))
  | ((with_reducible apply go_atHK); (· walk_at "ow"); (· walk_at "val"))
  | ((with_reducible apply go_atHS); (· walk_at "ow"); (· walk_at "val"))
  | ((with_reducible apply go_dputS); (· walk_at "ow"); (· walk_at "sz"))
  | ((with_reducible apply go_dputK); (· walk_at "ow"); (· walk_at "sz"))
  | (with_reducible apply go_eqI)
  | (with_reducible apply go_eqS)
  | (with_reducible apply go_eqB)
  | (with_reducible apply go_neg)
  | (with_reducible apply go_lenL)
  | (with_reducible apply go_lenT)
  | ((with_reducible apply go_lenS); (· walk_at "sz"))
  | ((with_reducible apply go_lenH); (· walk_at "ow"))
  | (with_reducible apply go_tupL)
  | (with_reducible apply go_tupT)
  | ((with_reducible apply go_tupH); (· walk_at "ow"))
  | (with_reducible apply go_listL)
  | (with_reducible apply go_listT)
  | ((with_reducible apply go_listH); (· walk_at "ow"))
  | (with_reducible apply go_all)
  | (with_reducible apply go_any)
  | ((with_reducible apply go_isi); (· exact rfl); (· walk_at "ty"); (· walk_at "val"))
  | ((with_reducible apply go_inS); (· exact rfl))
  | ((with_reducible apply go_inSL); (· exact rfl))
  | ((with_reducible apply go_sortS); (· walk_at "sz"))
  | (with_reducible apply go_own)
  | (with_reducible apply go_pnil)
  | (with_reducible apply go_pcons)
  | ((with_reducible apply go_lcNil); (· exact trivial))
  | (with_reducible apply go_lcCons)
  | (with_reducible apply go_min2)
  | walk_at "call")
local macro_rules | `(tactic| walk_at "go") => `(tactic| (walk_at "wh"; repeat (walk_at "go1"; walk_at "wh")))
local macro_rules | `(tactic| walk_at "all") => `(tactic| (walk_at "wh"; repeat ((first | walk_at "go1" | (with_reducible refine go_st fun _ _ => ?_) | (with_reducible apply goN; (· assumption))); walk_at "wh")))
abbrev s_Reader_read : Stmt := clsS 28 7
abbrev N_Reader_read : List Str := ["text", "lines", "inputs", "cells", "first", "rows", "e", "at"]
theorem sc_Reader_read : FnScope N_Reader_read ["text"] (defScope s_Reader_read) := ⟨rfl, rfl, rfl, by decide +kernel, rfl, by decide +kernel, by decide +kernel⟩
def itemsR : D → List D
  | .tup xs => xs
  | _ => []
def pageL (cs rs : List D) (i : Int) : List Str := Txt.join " " ["inputs", wtx (.int i)] :: (cs.map fun c => Txt.join " " ["cell", wtx c]) ++ rs.map fun r => Txt.join " " ((itemsR r).map wtx)
abbrev pageT (cs rs : List D) (i : Int) : Str := Txt.join "\n" (pageL cs rs i)
def WrdS (w : D) : Prop := Wrd w ∧ (wtx w).length ≤ 50
structure PgOk (cs rs : List D) (i : Int) : Prop where
  lc : cs.length ≤ 400
  lr : rs.length ≤ 400
  oi : WrdS (.int i)
  oc : ∀ c ∈ cs, WrdS c
  orr : ∀ r ∈ rs, ∃ ws, r = .tup ws ∧ ws.length ≤ 10 ∧ ∀ w ∈ ws, WrdS w
section
variable {P : Program} {w : World} {K : PySem.W.Frag} {mg : Str → Option Value} {base : Heap}
theorem page_short {cs rs : List D} {i : Int} (ok : PgOk cs rs i) : ∀ l ∈ pageL cs rs i, l.length ≤ 510 := by
  have two : ∀ (y : Str) (w : D), y.length ≤ 50 → WrdS w → (Txt.join " " [y, wtx w]).length ≤ 510 := fun y w hy hw => by
    have := join_len (sep := " ") (by decide +kernel) (xs := [y, wtx w]) (k := 50) fun x hx => by
      simp only [List.mem_cons, List.not_mem_nil, or_false] at hx
      rcases hx with rfl | rfl
      · exact hy
      · exact hw.2
    simp only [List.length_cons, List.length_nil] at this
    omega
  intro l hl
  simp only [pageL, List.cons_append, List.mem_cons, List.mem_append, List.mem_map] at hl
  rcases hl with rfl | ⟨c, hc, rfl⟩ | ⟨r, hr, rfl⟩
  · exact two _ _ (by decide +kernel) ok.oi
  · exact two _ _ (by decide +kernel) (ok.oc c hc)
  · obtain ⟨ws, rfl, h10, hw⟩ := ok.orr r hr
    have := join_len (sep := " ") (by decide +kernel) (xs := ws.map wtx) (k := 50) fun x hx => by
      obtain ⟨y, hy, rfl⟩ := List.mem_map.mp hx
      exact (hw y hy).2
    rw [List.length_map] at this
    show (Txt.join " " (ws.map wtx)).length ≤ 510
    have : ws.length * 51 ≤ 510 := by omega
    omega
def readS (AA : Str → Addr) (C : Addr) : DSp := fun ds O Q _ => ∃ (text : Str) (lines : List Str) (i : Nat) (cs : List Nat) (rs : List (List D)), ds = [.str text] ∧ Txt.split text "\n" = lines ∧ text.length ≤ 10000000 ∧ LinesOk lines ∧ (∀ l ∈ lines, ∀ z ∈ spl l, PyData.strOk z = true) ∧ readCM lines = .inr (i, cs) ∧
  1 + cs.length < lines.length ∧ lines.length ≤ 900 ∧ (lines.drop (1 + cs.length)).map (fun l => rowM (spl l)) = rs.map some ∧ rdX AA (cs.map natD) (rs.map D.tup) (.int (i : Nat)) = none ∧ Q (.ins C (rdF (cs.map natD) (rs.map D.tup) (.int (i : Nat)))) O
theorem row_flat {ws : List Str} {r : List D} (h : rowM ws = some r) (hw : ∀ z ∈ ws, z.length ≤ 900) : Flat1 (.tup r) := by
  refine ⟨rfl, fun xs e x hx => ?_⟩
  cases e
  cases ws with
  | nil => cases h
  | cons z its =>
    cases hf : formsT.lookup z with
    | none => simp [rowM, hf] at h
    | some dm =>
    obtain ⟨fm, rfl, hfm⟩ := forms_str z dm hf
    have e0 : rowM (z :: its) = if its.length = fm.length then (if ((co fm).zipWith itemR its).any isNonR || !((co fm).zipWith itemR its).all strOkR then none else some (.str z :: (co fm).zipWith itemR its)) else none := by simp [rowM, hf]
    rw [e0] at h
    by_cases h1 : its.length = fm.length
    · rw [if_pos h1] at h
      by_cases h2 : (((co fm).zipWith itemR its).any isNonR || !((co fm).zipWith itemR its).all strOkR) = true
      · rw [if_pos h2] at h; cases h
      · rw [if_neg h2] at h
        have h := Option.some.inj h
        rw [← h] at hx
        rcases List.mem_cons.mp hx with rfl | hx
        · exact ⟨rfl, fun y e => by cases e; exact szk' (Nat.le_trans (hw z (by simp)) (by omega))⟩
        · refine zip_mem (f := itemR) (P := Flat) (fun k it hit => ?_) x hx
          unfold itemR
          by_cases hk : k = 116
          · rw [if_pos hk]; exact ⟨rfl, fun y e => by cases e; exact szk' (Nat.le_trans (hw it (by simp [hit])) (by omega))⟩
          · rw [if_neg hk]; cases numP it <;> exact ⟨rfl, fun y e => by cases e⟩
    · rw [if_neg h1] at h; cases h
end
end LW
set_option Elab.async false
set_option linter.all false
set_option maxRecDepth 100000
set_option maxHeartbeats 4000000
set_option pp.maxSteps 1200
namespace LW
open PySem PySem.Spec PyProof.Rows L2 EV PySem.XO PySem.W LamX
theorem lit_nbw : ∀ z ∈ (["read", "zero", "top", "up", "same", "less", "copy", "has", "link", "jump", "end", "refuse", "inputs", "cell"] : List Str), Nbw z := by
  have h : ∀ z ∈ (["read", "zero", "top", "up", "same", "less", "copy", "has", "link", "jump", "end", "refuse", "inputs", "cell"] : List Str), 32 ∉ z.cps.toList ∧ 10 ∉ z.cps.toList ∧ z.length ≤ 20 ∧ PyData.strOk z = true := by decide +kernel
  exact h
/-- words that a row is made of -/
def Nbd : D → Prop
  | .str y => Nbw y
  | .int i => 0 ≤ i ∧ i ≤ 20000
  | _ => False
theorem nbd_tx {d : D} (h : Nbd d) : Nbw (wtx d) ∧ WrdS d := by
  cases d with
  | str y => exact ⟨h, by show y.length ≤ 1000; have := h.2.2.1; omega, by show y.length ≤ 50; have := h.2.2.1; omega⟩
  | int i =>
    obtain ⟨h0, h1⟩ := h
    obtain ⟨n, rfl⟩ : ∃ n : Nat, i = (n : Int) := ⟨i.toNat, by omega⟩
    have hn := num_nbw (n := n) (by omega)
    refine ⟨hn, ?_, ?_⟩
    · show ((n : Int).natAbs).log2 < 1920
      rw [Int.natAbs_natCast]
      by_cases n0 : n = 0
      · subst n0; decide
      · exact (Nat.log2_lt n0).mpr (Nat.lt_of_lt_of_le (show n < 2 ^ 15 by omega) (Nat.pow_le_pow_right (by decide) (by decide)))
    · show (numW n).length ≤ 50
      have := hn.2.2.1; omega
  | _ => exact h.elim
theorem rowM_of {z fm : Str} {its : List Str} {found : List D} (hf : formsT.lookup z = some (.str fm)) (hlen : its.length = fm.length) (hz : (co fm).zipWith itemR its = found) (hn : found.any isNonR = false) (ha : found.all strOkR = true) : rowM (z :: its) = some (.str z :: found) := by
  have e0 : rowM (z :: its) = if its.length = fm.length then (if ((co fm).zipWith itemR its).any isNonR || !((co fm).zipWith itemR its).all strOkR then none else some (.str z :: (co fm).zipWith itemR its)) else none := by simp [rowM, hf]
  rw [e0, if_pos hlen, hz, hn, ha]
  rfl
theorem itemR_n {k n : Nat} (hk : k ≠ 116) (h : numP (numW n) = some n) : itemR k (numW n) = .int n := by
  unfold itemR; rw [if_neg hk, h]; rfl
theorem itemR_t {y : Str} : itemR 116 y = .str y := if_pos rfl
/-- a row is read back -/
theorem row_back {c m : Int} {w0 w1 : Str} {r : D} (n0 : isNm (.str w0) = true) (n1 : isNm (.str w1) = true) (hc : c ≤ 20000) (hm : m ≤ 20000) (h : Stp c m w0 w1 r) : r = .tup (itemsR r) ∧ itemsR r ≠ [] ∧ (itemsR r).length ≤ 10 ∧ (∀ w ∈ itemsR r, Nbd w) ∧ rowM ((itemsR r).map wtx) = some (itemsR r) := by
  obtain ⟨a, b, j, a0, a1, b0, b1, j0, j1, h⟩ := h
  obtain ⟨a, rfl⟩ : ∃ n : Nat, a = (n : Int) := ⟨a.toNat, by omega⟩
  obtain ⟨b, rfl⟩ : ∃ n : Nat, b = (n : Int) := ⟨b.toNat, by omega⟩
  obtain ⟨j, rfl⟩ : ∃ n : Nat, j = (n : Int) := ⟨j.toNat, by omega⟩
  have pa := numP_num (n := a) (by omega)
  have pb := numP_num (n := b) (by omega)
  have pj := numP_num (n := j) (by omega)
  have k0 := nm_nbw n0
  have k1 := nm_nbw n1
  have s := lit_nbw
  simp only [List.mem_cons, List.not_mem_nil, or_false, forall_eq_or_imp, forall_eq] at s
  obtain ⟨s1, s2, s3, s4, s5, s6, s7, s8, s9, s10, s11, s12, s13, s14⟩ := s
  have na : Nbd (.int a) := ⟨by omega, by omega⟩
  have nb : Nbd (.int b) := ⟨by omega, by omega⟩
  have nj : Nbd (.int j) := ⟨by omega, by omega⟩
  simp only [stpL, List.mem_cons, List.not_mem_nil, or_false] at h
  rcases h with rfl | rfl | rfl | rfl | rfl | rfl | rfl | rfl | rfl | rfl | rfl | rfl
  · refine ⟨rfl, by simp [itemsR], by simp [itemsR], ?_, rowM_of (fm := "c") rfl (by show 1 = ("c" : Str).length; decide +kernel) (by rw [fc1]; simp only [wtx_nat, List.map_cons, List.map_nil, List.zipWith_cons_cons, List.zipWith_nil_left, itemR_t, itemR_n (show (99 : Nat) ≠ 116 by decide) pa, itemR_n (show (99 : Nat) ≠ 116 by decide) pb, itemR_n (show (106 : Nat) ≠ 116 by decide) pj]) rfl (by simp [strOkR, n0])⟩
    simp only [itemsR, List.mem_cons, List.not_mem_nil, or_false, forall_eq_or_imp, forall_eq]
    exact ⟨s1, na⟩
  · refine ⟨rfl, by simp [itemsR], by simp [itemsR], ?_, rowM_of (fm := "c") rfl (by show 1 = ("c" : Str).length; decide +kernel) (by rw [fc1]; simp only [wtx_nat, List.map_cons, List.map_nil, List.zipWith_cons_cons, List.zipWith_nil_left, itemR_t, itemR_n (show (99 : Nat) ≠ 116 by decide) pa, itemR_n (show (99 : Nat) ≠ 116 by decide) pb, itemR_n (show (106 : Nat) ≠ 116 by decide) pj]) rfl (by simp [strOkR, n0])⟩
    simp only [itemsR, List.mem_cons, List.not_mem_nil, or_false, forall_eq_or_imp, forall_eq]
    exact ⟨s2, na⟩
  · refine ⟨rfl, by simp [itemsR], by simp [itemsR], ?_, rowM_of (fm := "c") rfl (by show 1 = ("c" : Str).length; decide +kernel) (by rw [fc1]; simp only [wtx_nat, List.map_cons, List.map_nil, List.zipWith_cons_cons, List.zipWith_nil_left, itemR_t, itemR_n (show (99 : Nat) ≠ 116 by decide) pa, itemR_n (show (99 : Nat) ≠ 116 by decide) pb, itemR_n (show (106 : Nat) ≠ 116 by decide) pj]) rfl (by simp [strOkR, n0])⟩
    simp only [itemsR, List.mem_cons, List.not_mem_nil, or_false, forall_eq_or_imp, forall_eq]
    exact ⟨s3, na⟩
  · refine ⟨rfl, by simp [itemsR], by simp [itemsR], ?_, rowM_of (fm := "c") rfl (by show 1 = ("c" : Str).length; decide +kernel) (by rw [fc1]; simp only [wtx_nat, List.map_cons, List.map_nil, List.zipWith_cons_cons, List.zipWith_nil_left, itemR_t, itemR_n (show (99 : Nat) ≠ 116 by decide) pa, itemR_n (show (99 : Nat) ≠ 116 by decide) pb, itemR_n (show (106 : Nat) ≠ 116 by decide) pj]) rfl (by simp [strOkR, n0])⟩
    simp only [itemsR, List.mem_cons, List.not_mem_nil, or_false, forall_eq_or_imp, forall_eq]
    exact ⟨s4, na⟩
  · refine ⟨rfl, by simp [itemsR], by simp [itemsR], ?_, rowM_of (fm := "ccj") rfl (by show 3 = ("ccj" : Str).length; decide +kernel) (by rw [fccj]; simp only [wtx_nat, List.map_cons, List.map_nil, List.zipWith_cons_cons, List.zipWith_nil_left, itemR_t, itemR_n (show (99 : Nat) ≠ 116 by decide) pa, itemR_n (show (99 : Nat) ≠ 116 by decide) pb, itemR_n (show (106 : Nat) ≠ 116 by decide) pj]) rfl (by simp [strOkR, n0])⟩
    simp only [itemsR, List.mem_cons, List.not_mem_nil, or_false, forall_eq_or_imp, forall_eq]
    exact ⟨s5, na, nb, nj⟩
  · refine ⟨rfl, by simp [itemsR], by simp [itemsR], ?_, rowM_of (fm := "ccj") rfl (by show 3 = ("ccj" : Str).length; decide +kernel) (by rw [fccj]; simp only [wtx_nat, List.map_cons, List.map_nil, List.zipWith_cons_cons, List.zipWith_nil_left, itemR_t, itemR_n (show (99 : Nat) ≠ 116 by decide) pa, itemR_n (show (99 : Nat) ≠ 116 by decide) pb, itemR_n (show (106 : Nat) ≠ 116 by decide) pj]) rfl (by simp [strOkR, n0])⟩
    simp only [itemsR, List.mem_cons, List.not_mem_nil, or_false, forall_eq_or_imp, forall_eq]
    exact ⟨s6, na, nb, nj⟩
  · refine ⟨rfl, by simp [itemsR], by simp [itemsR], ?_, rowM_of (fm := "cc") rfl (by show 2 = ("cc" : Str).length; decide +kernel) (by rw [fcc]; simp only [wtx_nat, List.map_cons, List.map_nil, List.zipWith_cons_cons, List.zipWith_nil_left, itemR_t, itemR_n (show (99 : Nat) ≠ 116 by decide) pa, itemR_n (show (99 : Nat) ≠ 116 by decide) pb, itemR_n (show (106 : Nat) ≠ 116 by decide) pj]) rfl (by simp [strOkR, n0])⟩
    simp only [itemsR, List.mem_cons, List.not_mem_nil, or_false, forall_eq_or_imp, forall_eq]
    exact ⟨s7, na, nb⟩
  · refine ⟨rfl, by simp [itemsR], by simp [itemsR], ?_, rowM_of (fm := "tcj") rfl (by show 3 = ("tcj" : Str).length; decide +kernel) (by rw [ftcj]; simp only [wtx_nat, List.map_cons, List.map_nil, List.zipWith_cons_cons, List.zipWith_nil_left, itemR_t, itemR_n (show (99 : Nat) ≠ 116 by decide) pa, itemR_n (show (99 : Nat) ≠ 116 by decide) pb, itemR_n (show (106 : Nat) ≠ 116 by decide) pj]; rfl) rfl (by simp [strOkR, n1])⟩
    simp only [itemsR, List.mem_cons, List.not_mem_nil, or_false, forall_eq_or_imp, forall_eq]
    exact ⟨s8, k1, na, nj⟩
  · refine ⟨rfl, by simp [itemsR], by simp [itemsR], ?_, rowM_of (fm := "tccj") rfl (by show 4 = ("tccj" : Str).length; decide +kernel) (by rw [ftccj]; simp only [wtx_nat, List.map_cons, List.map_nil, List.zipWith_cons_cons, List.zipWith_nil_left, itemR_t, itemR_n (show (99 : Nat) ≠ 116 by decide) pa, itemR_n (show (99 : Nat) ≠ 116 by decide) pb, itemR_n (show (106 : Nat) ≠ 116 by decide) pj]; rfl) rfl (by simp [strOkR, n0])⟩
    simp only [itemsR, List.mem_cons, List.not_mem_nil, or_false, forall_eq_or_imp, forall_eq]
    exact ⟨s9, k0, na, nb, nj⟩
  · refine ⟨rfl, by simp [itemsR], by simp [itemsR], ?_, rowM_of (fm := "j") rfl (by show 1 = ("j" : Str).length; decide +kernel) (by rw [fj]; simp only [wtx_nat, List.map_cons, List.map_nil, List.zipWith_cons_cons, List.zipWith_nil_left, itemR_t, itemR_n (show (99 : Nat) ≠ 116 by decide) pa, itemR_n (show (99 : Nat) ≠ 116 by decide) pb, itemR_n (show (106 : Nat) ≠ 116 by decide) pj]) rfl (by simp [strOkR, n0])⟩
    simp only [itemsR, List.mem_cons, List.not_mem_nil, or_false, forall_eq_or_imp, forall_eq]
    exact ⟨s10, nj⟩
  · refine ⟨rfl, by simp [itemsR], by simp [itemsR], ?_, rowM_of (fm := "") rfl (by show 0 = ("" : Str).length; decide +kernel) (by rw [f0]; simp only [wtx_nat, List.map_cons, List.map_nil, List.zipWith_cons_cons, List.zipWith_nil_left, itemR_t, itemR_n (show (99 : Nat) ≠ 116 by decide) pa, itemR_n (show (99 : Nat) ≠ 116 by decide) pb, itemR_n (show (106 : Nat) ≠ 116 by decide) pj]) rfl (by simp [strOkR, n0])⟩
    simp only [itemsR, List.mem_cons, List.not_mem_nil, or_false, forall_eq_or_imp, forall_eq]
    exact s11
  · refine ⟨rfl, by simp [itemsR], by simp [itemsR], ?_, rowM_of (fm := "") rfl (by show 0 = ("" : Str).length; decide +kernel) (by rw [f0]; simp only [wtx_nat, List.map_cons, List.map_nil, List.zipWith_cons_cons, List.zipWith_nil_left, itemR_t, itemR_n (show (99 : Nat) ≠ 116 by decide) pa, itemR_n (show (99 : Nat) ≠ 116 by decide) pb, itemR_n (show (106 : Nat) ≠ 116 by decide) pj]) rfl (by simp [strOkR, n0])⟩
    simp only [itemsR, List.mem_cons, List.not_mem_nil, or_false, forall_eq_or_imp, forall_eq]
    exact s12
theorem pageL_eq (cs rs : List D) (i : Int) : pageL cs rs i = Txt.join " " (["inputs", wtx (.int i)]) :: ((cs.map fun c => Txt.join " " ["cell", wtx c]) ++ rs.map fun r => Txt.join " " ((itemsR r).map wtx)) := rfl
abbrev cellL (k : Nat) : Str := Txt.join " " ["cell", numW k]
theorem num_small {k : Nat} (h : k ≤ 10000) : Nbw (numW k) ∧ numP (numW k) = some k := ⟨num_nbw (by omega), numP_num (Nat.lt_of_le_of_lt h (by decide))⟩
theorem cells_back {inp : Nat} {rest : List Str} (hr : ∀ l r, rest = l :: r → (spl l).headD "" ≠ "cell") : ∀ {ks acc : List Nat}, (∀ k ∈ ks, k ≤ 10000) → acc.length + ks.length < 300 → (∀ j k, j < inp → (acc ++ ks)[j]? = some k → k = 0) → cellsM inp (ks.map cellL ++ rest) acc = .inr (acc ++ ks)
  | [], acc, _, _, _ => by
    rw [List.map_nil, List.nil_append, List.append_nil]
    cases hrest : rest with
    | nil => rfl
    | cons l r =>
      have := hr l r hrest
      unfold cellsM
      rw [if_pos (decide_eq_false this)]
  | k :: ks, acc, hk, hl, hz => by
    obtain ⟨hb, hn⟩ := num_small (hk k (by simp))
    have sc : Nbw "cell" := lit_nbw "cell" (by simp)
    have hs : spl (cellL k) = [("cell" : Str), numW k] := spl_join (by simp) fun y hy => by
      simp only [List.mem_cons, List.not_mem_nil, or_false] at hy
      rcases hy with rfl | rfl
      · exact sc
      · exact hb
    rw [List.map_cons, List.cons_append]
    conv => lhs; unfold cellsM
    rw [hs, if_neg (by simp)]
    show (match numP (numW k) with
      | none => _
      | some m => _) = _
    rw [hn]
    dsimp only
    have hk2 := hk k (by simp)
    have hz2 : acc.length < inp → k = 0 := fun h => hz acc.length k h (by simp)
    rw [if_neg (by
      simp only [List.length_cons] at hl
      rintro (h | h | ⟨h1, h2⟩)
      · omega
      · omega
      · have := hz2 h1; omega)]
    rw [cells_back hr (fun x hx => hk x (by simp [hx])) (by simp only [List.length_append, List.length_cons, List.length_nil] at hl ⊢; omega) (fun j x hj hx => hz j x hj (by rwa [List.append_assoc] at hx)), List.append_assoc]
    rfl
theorem cells_nat : ∀ {cs : List D}, (∀ c ∈ cs, ∃ k : Int, c = .int k ∧ 0 ≤ k ∧ k ≤ 10000) → ∃ ks : List Nat, cs = ks.map natD ∧ ∀ k ∈ ks, k ≤ 10000
  | [], _ => ⟨[], rfl, fun _ h => by cases h⟩
  | c :: cs, h => by
    obtain ⟨k, rfl, k0, k1⟩ := h c (by simp)
    obtain ⟨ks, rfl, hk⟩ := cells_nat fun x hx => h x (List.mem_cons_of_mem _ hx)
    refine ⟨k.toNat :: ks, ?_, fun x hx => ?_⟩
    · rw [List.map_cons]
      show _ = D.int ((k.toNat : Nat) : Int) :: _
      rw [show ((k.toNat : Nat) : Int) = k by omega]
    · rcases List.mem_cons.mp hx with rfl | hx
      · omega
      · exact hk x hx
theorem PG.pg {w0 w1 : Str} {cs rs : List D} {i : Int} (n0 : isNm (.str w0) = true) (n1 : isNm (.str w1) = true) (h : PG w0 w1 cs rs i) : PgOk cs rs i := by
  have c4 := h.c4
  have rl := h.rl
  have i0 := h.i0
  have i1 := h.i1
  refine ⟨by omega, by omega, (nbd_tx (d := .int i) ⟨by omega, by omega⟩).2, fun c hc => ?_, fun r hr => ?_⟩
  · obtain ⟨k, rfl, k0, k1⟩ := h.hc c hc
    exact (nbd_tx (d := .int k) ⟨by omega, by omega⟩).2
  · obtain ⟨e, _, hl, hw, _⟩ := row_back n0 n1 (by omega) (by omega) (h.r r hr)
    exact ⟨_, e, hl, fun w hm => (nbd_tx (hw w hm)).2⟩
theorem head_row {c m : Int} {w0 w1 : Str} {r : D} (h : Stp c m w0 w1 r) : ((itemsR r).map wtx).headD "" ≠ "cell" := by
  obtain ⟨a, b, j, a0, a1, b0, b1, j0, j1, h⟩ := h
  simp only [stpL, List.mem_cons, List.not_mem_nil, or_false] at h
  rcases h with rfl | rfl | rfl | rfl | rfl | rfl | rfl | rfl | rfl | rfl | rfl | rfl <;> simp only [itemsR, List.map_cons, wtx, List.headD_cons] <;> decide +kernel
theorem PG.back {w0 w1 : Str} {cs rs : List D} {i : Int} {AA : Str → Addr} {C : Addr} {O : Ow} {Q : QD} {E : QX} (n0 : isNm (.str w0) = true) (n1 : isNm (.str w1) = true) (ne : w0 ≠ w1) (h : PG w0 w1 cs rs i) (q : Q (.ins C (rdF cs rs (.int i))) O) : readS AA C [.str (pageT cs rs i)] O Q E := by
  have ok := h.pg n0 n1
  have good := h.good (AA := AA) n0 n1 ne
  have hrow : ∀ r ∈ rs, _ := fun r hr => row_back n0 n1 (by have := h.c4; omega) (by have := h.rl; omega) (h.r r hr)
  have hhead : ∀ r ∈ rs, _ := fun r hr => head_row (h.r r hr)
  obtain ⟨c1, c4, hc, i0, i1, iz, hr, r1, rl, _⟩ := h
  obtain ⟨n, rfl⟩ : ∃ n : Nat, i = (n : Int) := ⟨i.toNat, by omega⟩
  obtain ⟨ks, rfl, hk⟩ := cells_nat hc
  have si : Nbw "inputs" := lit_nbw "inputs" (by simp)
  have sc : Nbw "cell" := lit_nbw "cell" (by simp)
  have hni := num_small (k := n) (by omega)
  -- the words of the lines
  have hsi : spl (Txt.join " " ["inputs", wtx (.int (n : Nat))]) = [("inputs" : Str), numW n] := spl_join (by simp) fun y hy => by
    simp only [List.mem_cons, List.not_mem_nil, or_false] at hy
    rcases hy with rfl | rfl
    · exact si
    · exact hni.1
  have hsc : ∀ k ∈ ks, spl (cellL k) = [("cell" : Str), numW k] := fun k hk' => spl_join (by simp) fun y hy => by
    simp only [List.mem_cons, List.not_mem_nil, or_false] at hy
    rcases hy with rfl | rfl
    · exact sc
    · exact (num_small (hk k hk')).1
  have hsr : ∀ r ∈ rs, spl (Txt.join " " ((itemsR r).map wtx)) = (itemsR r).map wtx := fun r hr' => spl_join (by simp [(hrow r hr').2.1]) fun y hy => by
    obtain ⟨d, hd, rfl⟩ := List.mem_map.mp hy
    exact (nbd_tx ((hrow r hr').2.2.2.1 d hd)).1
  have hcm : (ks.map natD).map (fun c => Txt.join " " ["cell", wtx c]) = ks.map cellL := by rw [List.map_map]; rfl
  obtain ⟨L, hL⟩ : ∃ L, L = pageL (ks.map natD) rs n := ⟨_, rfl⟩
  have eL : L = Txt.join " " ["inputs", wtx (.int (n : Nat))] :: (ks.map cellL ++ rs.map fun r => Txt.join " " ((itemsR r).map wtx)) := by rw [hL, pageL_eq, hcm]
  have hwords : ∀ l ∈ L, ∃ ws : List Str, spl l = ws ∧ ∀ y ∈ ws, Nbw y := by
    intro l hl
    rw [eL] at hl
    simp only [List.mem_cons, List.mem_append, List.mem_map] at hl
    rcases hl with rfl | ⟨k, hk', rfl⟩ | ⟨r, hr', rfl⟩
    · refine ⟨_, hsi, fun y hy => ?_⟩
      simp only [List.mem_cons, List.not_mem_nil, or_false] at hy
      rcases hy with rfl | rfl
      · exact si
      · exact hni.1
    · refine ⟨_, hsc k hk', fun y hy => ?_⟩
      simp only [List.mem_cons, List.not_mem_nil, or_false] at hy
      rcases hy with rfl | rfl
      · exact sc
      · exact (num_small (hk k hk')).1
    · refine ⟨_, hsr r hr', fun y hy => ?_⟩
      obtain ⟨d, hd, rfl⟩ := List.mem_map.mp hy
      exact (nbd_tx ((hrow r hr').2.2.2.1 d hd)).1
  have hsplit : Txt.split (Txt.join "\n" L) "\n" = L := join_split sep_nl (by decide) (by rw [eL]; simp) fun l hl => by
    rw [eL] at hl
    have key : ∀ ws : List Str, (∀ y ∈ ws, Nbw y) → 10 ∉ (Txt.join " " ws).cps.toList := fun ws hw hm => by
      rw [show Txt.join " " ws = Str.join " " ws from StrLaws.glued_eq_join " " ws] at hm
      rcases mem_join hm with h | ⟨y, hy, h⟩
      · exact absurd h (by decide +kernel)
      · exact (hw y hy).2.1 h
    simp only [List.mem_cons, List.mem_append, List.mem_map] at hl
    rcases hl with rfl | ⟨k, hk', rfl⟩ | ⟨r, hr', rfl⟩
    · refine key _ fun y hy => ?_
      simp only [List.mem_cons, List.not_mem_nil, or_false] at hy
      rcases hy with rfl | rfl
      · exact si
      · exact hni.1
    · refine key _ fun y hy => ?_
      simp only [List.mem_cons, List.not_mem_nil, or_false] at hy
      rcases hy with rfl | rfl
      · exact sc
      · exact (num_small (hk k hk')).1
    · refine key _ fun y hy => ?_
      obtain ⟨d, hd, rfl⟩ := List.mem_map.mp hy
      exact (nbd_tx ((hrow r hr').2.2.2.1 d hd)).1
  have hshort := page_short ok
  have lL : L.length = 1 + ks.length + rs.length := by rw [eL]; simp; omega
  have lks : ks.length ≤ 5 := by simpa using c4
  have hread : readCM L = .inr (n, ks) := by
    have e1 : readCM L = (match inpM (spl (L.headD "")) with
      | none => .inl 0
      | some i => if 300 < i then .inl 0 else match cellsM i L.tail [] with
        | .inl e => .inl e
        | .inr cs => if cs.length < i then .inl (1 + cs.length) else .inr (i, cs)) := rfl
    rw [e1, eL, List.headD_cons, hsi]
    have e2 : inpM [("inputs" : Str), numW n] = some n := by
      show (if decide (("inputs" : Str) = "inputs") then numP (numW n) else none) = some n
      rw [decide_eq_true rfl, if_pos rfl]; exact hni.2
    rw [e2]
    dsimp only
    rw [if_neg (by omega), List.tail_cons, cells_back (ks := ks) (acc := []) (fun l r e => ?_) hk (by simp; omega) (fun j k hj hx => ?_)]
    · dsimp only
      rw [List.nil_append, if_neg]
      have : 1 ≤ ks.length := by simpa using c1
      omega
    · cases rs with
      | nil => simp at r1
      | cons r0 rs0 =>
        rw [List.map_cons] at e
        cases e
        rw [hsr r0 (by simp)]
        exact hhead r0 (by simp)
    · have hj0 : j = 0 := by omega
      have hn1 : (n : Int) = 1 := by omega
      subst hj0
      have := iz hn1
      rw [List.nil_append] at hx
      cases ks with
      | nil => simp at hx
      | cons k0 ks0 =>
        simp only [List.map_cons, List.getD_cons_zero] at this
        simp only [List.getElem?_cons_zero, Option.some.injEq] at hx
        have : ((k0 : Nat) : Int) = 0 := by simpa [natD] using this
        omega
  have hdrop : L.drop (1 + ks.length) = rs.map fun r => Txt.join " " ((itemsR r).map wtx) := by
    rw [eL, Nat.add_comm, List.drop_succ_cons, List.drop_append_of_le_length (by simp), List.drop_of_length_le (by simp), List.nil_append]
  have hrs : (rs.map itemsR).map D.tup = rs := by
    rw [List.map_map]
    conv => rhs; rw [← List.map_id rs]
    exact List.map_congr_left fun r hr' => (hrow r hr').1.symm
  refine ⟨_, L, n, ks, rs.map itemsR, rfl, by unfold pageT; rw [← hL]; exact hsplit, ?_, ⟨by omega, fun l hl => Nat.le_trans (hshort l (by rw [← hL]; exact hl)) (by decide)⟩, fun l hl z hz => ?_, hread, by omega, by omega, ?_, ?_, ?_⟩
  · have := join_len (sep := "\n") (by decide +kernel) (xs := pageL (ks.map natD) rs n) (k := 510) hshort
    rw [← hL, lL] at this
    show (Txt.join "\n" (pageL (ks.map natD) rs n)).length ≤ _
    rw [← hL]
    omega
  · obtain ⟨ws, hw, hn⟩ := hwords l hl
    rw [hw] at hz
    exact (hn z hz).2.2.2
  · rw [hdrop, List.map_map, List.map_map]
    refine List.map_congr_left fun r hr' => ?_
    show rowM (spl (Txt.join " " ((itemsR r).map wtx))) = some (itemsR r)
    rw [hsr r hr']
    exact (hrow r hr').2.2.2.2
  · rw [hrs]; exact good
  · rw [hrs]; exact q
end LW
set_option Elab.async false
set_option linter.all false
set_option maxRecDepth 100000
set_option maxHeartbeats 4000000
namespace L2
open PySem PySem.Spec PyProof.Rows PySem.XO
section
variable {X : Cx} {C : Addr} {code : Str} {names : List Str} {n : Nat} {x : Str} {a : Expr} {es : List Expr} {t : TA} {p pos : Pos}
/-- an own error, made: its context is None, it has its six fields -/
theorem mk_run5 {pins : List (Addr × Obj)} {σ : St} {H : Hp} {s : Shared} {Q : XK} {us : List Value} {vs : List V} (Er : Err X.prog X.w X.K X.mg X.base n C code names) (hr : L2H.RoomH n X.A) (I : Inv X pins σ H s) (r : Vals vs us) (hl : vs.length = names.length)
    (h : ∀ d, H d = none → Q (.ref C) (some d) (upd H d (.xd (errF code names vs)))) : wpAny (model X.prog X.w) X.A (call (.ref C) us) (fun u s' => L2N.MkP X pins σ Q u s' ∧ L2H.Six u s') X.xe s := by
  refine wpAny_call (Er.run I.ok.mod us (by rw [← r.length]; exact hl) X.A _ s I.bk I.nolimit (by have := hr.dp; omega) fun h' tk e d mA t hm M => ?_)
  obtain ⟨t1, ho⟩ := M.obj
  show L2N.MkP X pins σ Q (.ref e) { s with heap := h', toks := tk } ∧ L2H.Six (.ref e) { s with heap := h', toks := tk }
  obtain ⟨G', g1, g2⟩ := restrict h' fun b => decide (b ≠ e)
  have gk : ∀ b, b ≠ e → G'.get? b = h'.get? b := fun b hb => g1 b (decide_eq_true hb)
  have ge : G'.get? e = none := g2 e (by simp)
  have old : ∀ b o, s.heap.get? b = some o → G'.get? b = some o := fun b o q => (gk b (Nat.ne_of_lt (Nat.lt_of_lt_of_le (Heap.lt_size q) M.new))).trans (M.keep b o q)
  have ob : ObjOk X.prog X.w (upd H d (.xd (errF code names vs))) G' d (.xd (errF code names vs)) :=
    ⟨mA, M.ns.at (fun o q => (gk d M.dne).trans q), fun f => by rw [hm f]; exact relO_err r⟩
  have J : Inv X pins σ (upd H d (.xd (errF code names vs))) { s with heap := G', toks := tk } := I.laid (t' := tk) old M.dbig ob
  refine ⟨⟨e, _, _, { s with heap := G', toks := tk }, _, .ref C, some d, rfl, J, fun b o q => ?_, ge, ho, ⟨rfl, rfl, fun vs e => by cases e; rfl⟩, rfl, rfl, ?_, rfl, I.bare, raises_own Er.exC Er.tyC, h d (I.hok.fresh M.dbig)⟩, fun a oe vs ea hg hd => ?_⟩
  · by_cases hb : b = e
    · have q' : G'.get? b = some o := q
      rw [hb, ge] at q'; cases q'
    · have q' : G'.get? b = some o := q
      rw [gk b hb] at q'
      exact q'
  · rw [upd_ne (fun z => M.dne z.symm)]
    exact I.hok.fresh M.new
  · cases ea
    have hg' : h'.get? e = some oe := hg
    rw [ho] at hg'
    cases hg'
    cases hd
    show (4 : Nat) < 6
    decide
theorem pmk5_err (Er : Err X.prog X.w X.K X.mg X.base n C code names) (hr : L2H.RoomH n X.A) (hg : Gl X x) (hm : X.mg x = some (.ref C)) (ha : PA X (a :: es) t) (hdb : (x == ("__debug__" : Str)) = false) (he : starEach (a :: es) X.env = (false, eval a X.env) :: starEach es X.env) (hpl : (backTo pos (starEach es X.env)).any (·.1) = false) :
    L2H.PMk5 X (.Call (.Name x p) (a :: es) [] pos) (tMkE C code names t) := by
  intro pins s σ H Q I h
  refine wpAny_Call_Name_kw (ld_glob I hg hm ?_ hdb)
  refine PySem.W.callWith_K (h₀ := X.base) I.ok.mod.kin Er.kp (thn (ha.run pos pins s σ H _ I h) fun us s1 ⟨vs, H1, I1, r, hl, q⟩ => ⟨I1.kIn, ?_⟩) he hpl
  exact mk_run5 Er hr I1 r hl q
end
end L2
namespace EV
open PySem PySem.Spec PyProof.Rows L2 PySem.XO
section
variable {X : Cx} {L : Pl} {C : Addr} {code : Str} {names : List Str} {n : Nat} {x : Str} {a : Expr} {es : List Expr} {mA : DA} {p pos pos2 cpos : Pos} {j : Nat}
theorem roomH_mk {k : Nat} {A : Around} (r : Room k A) (h : Option Value) : L2H.RoomH k (A.mark h) := ⟨r.dp, r.un⟩
abbrev TkN (X : Cx) (L : Pl) : Prop := L2N.Takes X (fun cls d σ H => L.W σ cls d H)
/-- raise E(..), where nothing is handled -/
theorem d_raiseN (hc : X.calm = true) (tk : TkN X L) (Er : Err X.prog X.w X.K X.mg X.base n C code names) (hr : Room n X.A) (hg : Gl X x) (hm : X.mg x = some (.ref C)) (ha : DPA X L (a :: es) mA) (hdb : (x == ("__debug__" : Str)) = false) (he : starEach (a :: es) X.env = (false, eval a X.env) :: starEach es X.env) (hpl : (backTo pos (starEach es X.env)).any (·.1) = false) :
    DPS X L (.Raise (some (.Call (.Name x p) (a :: es) [] pos)) none pos2) (dRaise C code names mA) := by
  refine ⟨fun A A' ρ O l z => ha.mo _ _ _ _ _ _ (fun d O1 y => ⟨y.1, l.ex _ _ _ y.2⟩) (fun x _ y => l.ex _ _ _ y) z, ps_imp (L2N.ps_raise hc tk (pmk5_err Er (L2H.roomH_of hr) hg hm ha.run hdb he hpl).pmk) fun Dn σ H ⟨G, O, ρ, g, rs, q⟩ => ?_⟩
  refine upAE ha.mo g rs q fun ds vs O1 G1 H1 q1 s1 r1 => ⟨by rw [r1.length]; exact q1.1, fun d nd => ?_⟩
  obtain ⟨s2, r2⟩ := exd_new (code := code) (names := names) s1.good r1 nd
  exact q1.2 σ d _ _ _ (s1.trans s2) (rs.step (s1.trans s2)) upd_same r2
end
end EV
namespace L2
open PySem PySem.Spec PyProof.Rows PySem.XO
def tMakeKS (C : Addr) (n m : Nat) (sp : Sp) (gV : List V → List V → List V) (E : St → XK) (t tk : TA) : TE := fun σ H Q => t σ H fun vs H1 => tk σ H1 fun zs H2 => vs.length = n ∧ zs.length = m ∧ ∀ x dx, H2 x = none → H2 dx = none → dx ≠ x →
  sp (gV (.ref x :: vs) zs) (upd (upd H2 dx (.own x)) x (.ins C dx [])) (fun v H3 => v = .non ∧ Q (.ref x) H3) (E σ)
section
variable {X : Cx} {CX : CXT} {k n : Nat} {f C : Addr} {fd : FuncData} {ps ks : List Str} {sp : Sp} {E : XK} {x : Str} {p pos : Pos} {e : Expr} {es : List Expr} {kws : List Keyword} {t tk : TA} {g : List Value → List Value → List Value} {gV : List V → List V → List V}
theorem run_makeKS {pins : List (Addr × Obj)} {σ : St} {H : Hp} {s : Shared} {Q : VK} {us ws : List Value} {vs zs : List V} (M : Mk X.K C f) (F : FnOk X.prog X.w X.K X.mg X.base CX k f fd ps sp) (hr : Room (k + 1) X.A) (hb : KBn X.K fd ps (n + 1) ks g gV) (hx : PassesAt CX X σ E)
    (I : Inv X pins σ H s) (r : Vals vs us) (rz : Vals zs ws) (l1 : vs.length = n) (l2 : zs.length = ks.length)
    (h : ∀ x dx, H x = none → H dx = none → dx ≠ x → sp (gV (.ref x :: vs) zs) (upd (upd H dx (.own x)) x (.ins C dx [])) (fun v H2 => v = .non ∧ Q (.ref x) H2) E) :
    wpAny (model X.prog X.w) X.A (call (.ref C) us (ks.zip ws)) (EP X pins σ Q) X.xe s := by
  have hq := h (s.heap.objs.size + 1) s.heap.objs.size (I.hok.fresh (Nat.le_succ _)) (I.hok.fresh (Nat.le_refl _)) (Nat.ne_of_lt (Nat.lt_succ_self _))
  have I2 := Inv.made (C := C) I
  have r1 : Vals (V.ref (s.heap.objs.size + 1) :: vs) (Value.ref (s.heap.objs.size + 1) :: us) := .cons rfl r
  have r2 := hb.rel r1 rz
  have n1 : (Value.ref (s.heap.objs.size + 1) :: us).length = n + 1 := by
    rw [List.length_cons, ← r.length, l1]
  refine wpAny_call (make_map (f := f) I.kIn M.makes M.init (beq_iff_eq.mp M.fn) (codeAny_mono (F.run _ X.stack _ _ ⟨Value.ref (s.heap.objs.size + 1) :: us, ks.zip ws⟩ (g (Value.ref (s.heap.objs.size + 1) :: us) ws) _ _ E (hr.make C us (ks.zip ws))
    (I2.env0.make C us (ks.zip ws)) (hb.to _ (Value.ref (s.heap.objs.size + 1) :: us) ws I2.kIn n1 (rz.length.symm.trans l2)) r2 hq) fun r s' hq' => ?_))
  cases r with
  | error e => exact hx pins _ _ e s' I2 hq'
  | ok fl =>
    cases fl with
    | ret u =>
      obtain ⟨v, H', I3, rv, ev, q3⟩ := I2.after hq'
      subst ev
      exact ⟨rv, ⟨V.ref (s.heap.objs.size + 1), H', I3, rfl, q3⟩⟩
    | next => exact False.elim hq'
    | brk => exact False.elim hq'
    | cont => exact False.elim hq'
theorem pe_makeKS {E : St → XK} (M : Mk X.K C f) (F : FnOk X.prog X.w X.K X.mg X.base CX k f fd ps sp) (hr : Room (k + 1) X.A) (hg : Gl X x) (hm : X.mg x = some (.ref C)) (hb : KBn X.K fd ps (n + 1) ks g gV) (hx : ∀ σ, PassesAt CX X σ (E σ)) (ha : PA X (e :: es) t) (hkw : PK X kws tk)
    (hall : (backToKw pos (keywordEach kws X.env)).all (·.1.isSome) = true) (hks : (backToKw pos (keywordEach kws X.env)).filterMap (·.1) = ks) (hdb : (x == ("__debug__" : Str)) = false)
    (he : starEach (e :: es) X.env = (false, eval e X.env) :: starEach es X.env) (hpl : ((backTo pos (starEach (e :: es) X.env)).any (·.1) || (backToKw pos (keywordEach kws X.env)).any (·.1.isNone)) = false) :
    PE X (.Call (.Name x p) (e :: es) kws pos) (tMakeKS C n ks.length sp gV E t tk) := by
  refine ⟨fun pins s σ H Q I h => ?_⟩
  refine wpAny_Call_Name_kw (ld_glob I hg hm ?_ hdb)
  refine PySem.W.callWith_KW (h₀ := X.base) I.ok.mod.kin M.kp hall (thn (ha.run pos pins s σ H _ I h) fun us s1 ⟨vs, H1, I1, r, q⟩ => ?_) hpl he
  refine thn (hkw.run pos pins s1 σ H1 _ I1 q) fun ws s2 ⟨zs, H2, I2, rz, l1, l2, q2⟩ => ⟨I2.kIn, ?_⟩
  rw [hks]
  exact run_makeKS M F hr hb (hx σ) I2 r rz l1 l2 q2
end
section
variable {P : Program} {w : World} {K : PySem.W.Frag} {mg : Str → Option Value} {base : Heap}
theorem Fun.okXN {x qual : Str} {st : Stmt} {f : Addr} {fd : FuncData} {N ps : List Str} {k : Nat} {sp : Sp} (F : Fun K x qual st f fd) (S : FnScope N ps (defScope st)) (len : ∀ vs H Q E, sp vs H Q E → vs.length = ps.length)
    (hbody : ∀ (cdv : Value) (A : Around) (outer : List Env) (s : Shared) (H : Hp) (vs : List V) (Q : VK) (E : XK), Room k (A.deeper (envOfC qual (defScope st) s.heap.objs.size f cdv)) → sp vs H Q E →
      ∃ t, PSs (cxOf (L2N.CX P w) P w K mg base N qual (defScope st) f cdv A outer s H E) (defBody st) t ∧ t { nx := fun _ H' => Q .non H', rt := Q } (start N vs) H) : FnOk P w K mg base (L2N.CX P w) (k + 1) f fd ps sp := by
  obtain ⟨oc, od, kV, doc, pm, an, cdv, ct, osl, rfl, lk, hcd⟩ := F.ex
  exact fn_of lk hcd S len fun A outer s H vs Q E hr hsp => hbody cdv A outer s H vs Q E hr hsp
end
end L2
namespace EV
open PySem PySem.Spec PyProof.Rows L2 PySem.XO
section
variable {X : Cx} {L : Pl} {e : Expr} {es : List Expr} {mA mK : DA} {pos p : Pos}
theorem tkN_pass {X : Cx} {L : Pl} (tk : TkN X L) (σ : L2.St) : PassesAt (L2N.CX X.prog X.w) X σ (L.W σ) := L2N.passAt (W := fun cls d σ H => L.W σ cls d H) tk σ
theorem d_makeGS {CX : CXT} {k n : Nat} {C f : Addr} {fd : FuncData} {ps ks : List Str} {sp : DSp} {x : Str} {kws : List Keyword} {g : List Value → List Value → List Value} {gV : List V → List V → List V} {gD : List D → List D → List D} (M : Mk X.K C f) (Fn : FnOk X.prog X.w X.K X.mg X.base CX k f fd ps (spD X.K sp)) (hr : Room (k + 1) X.A) (hg : Gl X x) (hm : X.mg x = some (.ref C)) (hb : KBn X.K fd ps (n + 1) ks g gV)
    (hgD : ∀ (K : PySem.W.Frag) (G : Hp) (v : V) (vs zs : List V) (ds es : List D), RpL K G vs ds → RpL K G zs es → vs.length = n → zs.length = ks.length → ∃ ws, gV (v :: vs) zs = v :: ws ∧ RpL K G ws (gD ds es)) (hx : ∀ σ, PassesAt CX X σ (L.W σ))
    (ha : DPA X L (e :: es) mA) (hk : DPK X L kws mK) (hall : (backToKw pos (keywordEach kws X.env)).all (·.1.isSome) = true) (hks : (backToKw pos (keywordEach kws X.env)).filterMap (·.1) = ks) (hdb : (x == ("__debug__" : Str)) = false)
    (he : starEach (e :: es) X.env = (false, eval e X.env) :: starEach es X.env) (hpl : ((backTo pos (starEach (e :: es) X.env)).any (·.1) || (backToKw pos (keywordEach kws X.env)).any (·.1.isNone)) = false) :
    DPE X L (.Call (.Name x p) (e :: es) kws pos) (dMkK C n ks.length (fun ds zs _ => mkG C sp (gD ds zs)) mA mK) := by
  refine ⟨fun ρ O Q Q' E E' q hx x => ha.mo ρ _ _ _ _ _ (fun _ _ z => hk.mo ρ _ _ _ _ _ (fun _ _ y => ⟨y.1, y.2.1, mkG_mo q hx y.2.2⟩) hx z) hx x, pe_imp (pe_makeKS M Fn hr hg hm hb hx ha.run hk.run hall hks hdb he hpl) fun σ H Q ⟨G, O, ρ, g, rs, q⟩ => ?_⟩
  refine upA_of ha.mo g rs q fun xs vs O1 G1 H1 q1 s1 r1 => ?_
  refine upA_of hk.mo s1.good (rs.step s1) (mo_step hk.mo s1 q1) fun zs ws O2 G2 H2 q2 s2 r2 => ?_
  obtain ⟨l1, l2, q2⟩ := q2
  refine ⟨by rw [r1.length]; exact l1, by rw [r2.length]; exact l2, fun x dx nx nd hd => ?_⟩
  obtain ⟨us, e1, r3⟩ := hgD _ _ (.ref x) _ _ _ _ (r1.mono s2.grow) r2 (by rw [r1.length]; exact l1) (by rw [r2.length]; exact l2)
  rw [e1]
  have s12 := s1.trans s2
  exact run_mkG s2.good r3 nx nd hd (mkG_mo (fun _ _ z => z.step s12) (fun _ _ z => z.step s12) q2)
end
section
variable {P : Program} {w : World} {K : PySem.W.Frag} {mg : Str → Option Value} {base : Heap}
theorem fn_excFN {x qual : Str} {st : Stmt} {f : Addr} {fd : FuncData} {N ps : List Str} {k : Nat} {sp : DSp} {ms : DS} (Fn : Fun K x qual st f fd) (S : FnScope N ps (defScope st)) (len : ∀ ds O Q E, sp ds O Q E → ds.length = ps.length)
    (hb : ∀ (cdv : Value) (A : Around) (outer : List Env) (s : Shared) (H : Hp) (E : XK), Room k (A.deeper (envOfC qual (defScope st) s.heap.objs.size f cdv)) → TkN (cxOf (L2N.CX P w) P w K mg base N qual (defScope st) f cdv A outer s H E) ⟨bo0, fun _ => E⟩ →
      DPSs (cxOf (L2N.CX P w) P w K mg base N qual (defScope st) f cdv A outer s H E) ⟨bo0, fun _ => E⟩ (defBody st) ms)
    (h : ∀ ds O Q E, sp ds O Q E → ms (endsD (frg Q) (frg E)) (startD N ds) O) : FnOk P w K mg base (L2N.CX P w) (k + 1) f fd ps (spD K sp) := by
  refine Fn.okXN S (fun vs H Q E ⟨G, O, ds, g, r, Q0, E0, h0, _⟩ => ?_) (fun cdv A outer s H vs Q E hr ⟨G, O, ds, g, r, Q0, E0, h0, hq, hx⟩ => ?_)
  · rw [r.length]; exact len _ _ _ _ h0
  · have b := hb cdv A outer s H E hr (L2N.takes_of rfl rfl rfl rfl)
    refine ⟨_, b.run, G, O, startD N ds, g, start_rp r, b.mo (endsD (frg Q0) (frg E0)) _ _ _ ⟨fun ρ O1 z σ' G' H' s _ => kv.frg (frg_mo hq z) _ G' H' s .non, fun d O1 z v G' H' s rv => kv.frg (frg_mo hq z) v G' H' s rv, fun _ _ z => z.elim, fun _ _ z => z.elim, fun x ρ _ z σ' d fs G' H' s _ a rf => kx.frg (frg_mo hx z) d fs G' H' s a rf⟩ (h ds O Q0 E0 h0)⟩
end
end EV
set_option Elab.async false
set_option linter.all false
set_option maxRecDepth 100000
set_option maxHeartbeats 4000000
set_option pp.maxSteps 400
namespace LW
open PySem PySem.Spec PyProof.Rows L2 EV
section
variable {P : Program} {w : World} {K : PySem.W.Frag} {mg : Str → Option Value} {base : Heap}
theorem ok_check_rowsN {f fS aP aL C : Addr} {fd fdS : FuncData} (F : Fun K "check_rows" "check_rows" s_check_rows f fd) (G_is_step : FnOk P w K mg base CX0 2 fS fdS ["value", "cells", "rows"] (spD K stepS)) (T_is_step : Gf K mg "is_step" fS fdS ["value", "cells", "rows"])
    (m_len : mg "len" = none) (m_enumerate : mg "enumerate" = none) (M_PLACES : mg "PLACES" = some (.ref aP)) (T_PLACES : TabK K w aP placesT) (M_LAST : mg "LAST" = some (.ref aL)) (B_LAST : gtupB K aL lastT = true)
    (E_InvalidStep : Err P w K mg base 2 C "InvalidStep" ["at"]) (M_InvalidStep : mg "InvalidStep" = some (.ref C)) :
    FnOk P w K mg base (L2N.CX P w) 3 f fd ["cells", "rows"] (spD K (rowsS C)) := by
  refine fn_excFN F sc_check_rows (fun ds O Q E h => ?_) (fun cdv A outer s H E hr tk =>
    (d_scons (d_set (i := 2) sc_check_rows.nd rfl (.inl rfl) d_dnew rfl (.inl rfl))
      (d_scons (d_for (passes_of rfl) rfl (d_enum rfl m_enumerate (d_cons (d_var (i := 1) rfl (.inl rfl) (by decide) (by decide)) d_nil rfl) rfl) (dg_tup (n := 2) rfl (dgs_cons (dg_name (i := 3) sc_check_rows.nd rfl (.inl rfl) (.inl rfl)) (dgs_cons (dg_name (i := 4) sc_check_rows.nd rfl (.inl rfl) (.inl rfl)) dgs_nil rfl) rfl) rfl rfl) (d_scons (d_ifS (d_tnot (d_test (d_call G_is_step (hr.mono (by decide)) rfl T_is_step.m T_is_step.k T_is_step.b (fun _ => pass0A) (d_cons (d_var (i := 4) rfl (.inl rfl) (by decide) (by decide)) (d_cons (d_var (i := 0) rfl (.inl rfl) (by decide) (by decide)) (d_cons (d_callB cd_len rfl m_len boot_len (d_cons (d_var (i := 1) rfl (.inl rfl) (by decide) (by decide)) d_nil rfl) (by decide) (by decide) rfl rfl) d_nil rfl) rfl) rfl) (by decide) rfl rfl) (by intro _; rfl))) (d_sone (d_raiseN rfl tk E_InvalidStep (hr.mono (by decide)) rfl M_InvalidStep (d_cons (d_var (i := 3) rfl (.inl rfl) (by decide) (by decide)) d_nil rfl) (by decide) rfl rfl)) d_snil)
      (d_sone (d_ifS (d_tcmp (od_inK T_PLACES) (d_ix (d_var (i := 4) rfl (.inl rfl) (by decide) (by decide)) d_int (fun _ _ => rfl)) (d_gdict rfl M_PLACES (by decide)) rfl) (d_scons (d_ifS (d_tcmp (od_ne hr.units) (d_dget2 (hud hr) (d_var (i := 2) rfl (.inl rfl) (by decide) (by decide)) (d_ix (d_var (i := 4) rfl (.inl rfl) (by decide) (by decide)) d_int (fun _ _ => rfl)) (d_ixK T_PLACES (d_gdict rfl M_PLACES (by decide)) (d_ix (d_var (i := 4) rfl (.inl rfl) (by decide) (by decide)) d_int (fun _ _ => rfl)) (fun _ _ => rfl)) ⟨rfl, rfl, rfl, rfl⟩) (d_ixK T_PLACES (d_gdict rfl M_PLACES (by decide)) (d_ix (d_var (i := 4) rfl (.inl rfl) (by decide) (by decide)) d_int (fun _ _ => rfl)) (fun _ _ => rfl)) (nomark _)) (d_sone (d_raiseN rfl tk E_InvalidStep (hr.mono (by decide)) rfl M_InvalidStep (d_cons (d_var (i := 3) rfl (.inl rfl) (by decide) (by decide)) d_nil rfl) (by decide) rfl rfl)) d_snil)
      (d_sone (d_dput (hud hr) (d_var (i := 2) rfl (.inl rfl) (by decide) (by decide)) (d_ix (d_var (i := 4) rfl (.inl rfl) (by decide) (by decide)) d_int (fun _ _ => rfl)) (d_ixK T_PLACES (d_gdict rfl M_PLACES (by decide)) (d_ix (d_var (i := 4) rfl (.inl rfl) (by decide) (by decide)) d_int (fun _ _ => rfl)) (fun _ _ => rfl)) rfl))) d_snil))) (fun _ => rfl))
      (d_scons (d_ifS (d_tcmp (od_eq hr.units) (d_callB cd_len rfl m_len boot_len (d_cons (d_var (i := 1) rfl (.inl rfl) (by decide) (by decide)) d_nil rfl) (by decide) (by decide) rfl rfl) d_int (nomark _)) (d_sone (d_raiseN rfl tk E_InvalidStep (hr.mono (by decide)) rfl M_InvalidStep (d_cons d_int d_nil rfl) (by decide) rfl rfl)) d_snil)
      (d_sone (d_ifS (d_tcmp od_notinS (d_ix (d_ix (d_var (i := 1) rfl (.inl rfl) (by decide) (by decide)) (d_neg d_int) (fun _ _ => rfl)) d_int (fun _ _ => rfl)) (d_gtup B_LAST rfl M_LAST (by decide)) rfl) (d_sone (d_raiseN rfl tk E_InvalidStep (hr.mono (by decide)) rfl M_InvalidStep (d_cons (d_op od_sub (d_callB cd_len rfl m_len boot_len (d_cons (d_var (i := 1) rfl (.inl rfl) (by decide) (by decide)) d_nil rfl) (by decide) (by decide) rfl rfl) d_int) d_nil rfl) (by decide) rfl rfl)) d_snil)))))) (fun ds O Q E h => ?_)
  · obtain ⟨c, d, rs, rfl, _⟩ := h; rfl
  · obtain ⟨c, d, rs, rfl, hd, hl, hr, q, qx⟩ := h
    rw [show startD N_check_rows [.int c, d] = [.sh (.int c), .sh d, .un, .un, .un] from rfl]
    intro p np
    refine st_norm (ρ' := [.sh (.int c), .sh d, .sh (.opq (.ref p)), .un, .un]) rfl ?_
    dsimp only
    refine st_for (enumL rs) ?_ ?_
    · exact val_enum hd fun Q E q => q
    have sO : ∀ x, OSub O (oset O p x) := fun x => OSub.new np
    have dlen : ∀ pl : Pls, (toDic pl).length = pl.length := fun pl => by simp [toDic]
    show forW tt1 _ _ _ ((rs.zipIdx 0).map fun q => D.tup [.int q.2, q.1]) _ (oset O p (.dic (toDic [])))
    obtain ⟨R, hR⟩ : ∃ R, R = rowsBad c rs.length rs 0 [] := ⟨_, rfl⟩
    refine (?_ : ∀ (ds : List D) (i : Nat) (pl : Pls) (s3 s4 : Sl), (∀ r ∈ ds, Flat1 r) → i + ds.length = rs.length → pl.length ≤ i → rowsBad c rs.length ds i pl = R → forW tt1 _ _ _ ((ds.zipIdx i).map fun q => D.tup [.int q.2, q.1]) [.sh (.int c), .sh d, .sh (.opq (.ref p)), s3, s4] (oset O p (.dic (toDic pl)))) rs 0 [] .un .un hr (by simp) (by simp) hR.symm
    intro ds
    induction ds with
    | nil =>
      intro i pl s3 s4 _ hi _ hb
      have e0 : rowsBad c rs.length rs 0 [] = none := by rw [← hR]; exact hb.symm
      refine ⟨trivial, ?_⟩
      dsimp only
      refine st_if (decide ((rs.length : Int) = 0)) ?_ ?_
      · exact val_tstB _ (val_op (.int rs.length) (.int 0) _ (val_len hd fun Q E q => q) (fun Q E q => q) (fun Q q => q))
      by_cases hz : rs = []
      · have hb' : chkRows c rs = some 0 := by unfold chkRows; rw [e0, hz]; rfl
        rw [decide_eq_true (by rw [hz]; rfl)]
        refine bcT (val_raise [.int 0] rfl ?_ ?_)
        · exact fun Q E q => q
        · exact ⟨O, sO _, qx 0 hb'⟩
      · obtain ⟨xs, y, exs⟩ : ∃ xs y, rs = xs ++ [y] := ⟨rs.dropLast, rs.getLast hz, (List.dropLast_concat_getLast hz).symm⟩
        have hl0 : 0 < rs.length := List.length_pos_iff.mpr hz
        rw [decide_eq_false (by omega)]
        have hy : isStp y c rs.length = true := bad_all e0 y (by rw [exs]; simp)
        obtain ⟨z, zs, rfl⟩ := stp_form hy
        have hlast : rs.getLast? = some (.tup (.str z :: zs)) := by rw [exs]; simp
        have hck : chkRows c rs = if lastOk (.tup (.str z :: zs)) then none else some (rs.length - 1) := by
          unfold chkRows; rw [e0, hlast]
        refine bcN ?_
        dsimp only
        refine st_if1 (!lastOk (.tup (.str z :: zs))) ?_ ?_
        · exact val_tstB _ (val_op (.str z) (.tup lastT) _ (val_ix (.inr rfl) (val_ix hd (fun Q E q => q) (i := -1) (fun Q E q => q) (by rw [exs]; exact atI_last _ _)) (fun Q E q => q) (atI_nat (xs := .str z :: zs) (j := 0) rfl)) (fun Q E q => q) (fun Q q => q))
        cases hk : lastOk (.tup (.str z :: zs)) with
        | true =>
          rw [hk, if_pos rfl] at hck
          exact ⟨O, sO _, q hck⟩
        | false =>
          rw [hk, if_neg (by decide)] at hck
          refine bcT (val_raise [.int ((rs.length : Int) - 1)] rfl ?_ ?_)
          · exact val_cons _ _ (val_op (.int rs.length) (.int 1) _ (val_len hd fun Q E q => q) (fun Q E q => q) (fun Q q => ⟨trivial, q⟩)) val_nil
          · have := qx _ hck
            unfold stepX at this
            rw [show ((rs.length - 1 : Nat) : Int) = (rs.length : Int) - 1 by omega] at this
            exact ⟨O, sO _, this⟩
    | cons r ds ih =>
      intro i pl s3 s4 hfl hi hpl hb
      have bad : R = some i → chkRows c rs = some i := fun h => by unfold chkRows; rw [← hR, h]
      have fr := hfl r List.mem_cons_self
      refine ⟨trivial, rfl, ?_⟩
      refine tg_pair [.sh (.int c), .sh d, .sh (.opq (.ref p)), .sh (.int i), .sh r] rfl ?_
      dsimp only
      refine st_if (!isStp r c rs.length) ?_ ?_
      · exact val_not _ (val_tst _ (val_call [r, .int c, .int rs.length] _ (val_cons _ _ (fun Q E q => q) (val_cons _ _ (fun Q E q => q) (val_cons _ _ (val_len hd fun Q E q => q) val_nil))) (fun Q E q => ⟨r, c, rs.length, rfl, fr, q⟩)))
      unfold rowsBad at hb
      cases hs : isStp r c rs.length with
      | false =>
        rw [hs, if_pos rfl] at hb
        refine bcT (val_raise [.int i] rfl ?_ ?_)
        · exact fun Q E q => q
        · exact ⟨O, sO _, qx i (bad hb.symm)⟩
      | true =>
        rw [hs, if_neg (by decide)] at hb
        obtain ⟨z, zs, rfl⟩ := stp_form hs
        dsimp only at hb
        have v0 : ∀ O' Q E, Q (.str z) O' → dOp ixD (dVar 4) (dC (.int 0)) [.sh (.int c), .sh d, .sh (.opq (.ref p)), .sh (.int i), .sh (.tup (.str z :: zs))] O' Q E := fun O' => val_ix (.inr rfl) (fun Q E q => q) (fun Q E q => q) (atI_nat (xs := .str z :: zs) (j := 0) rfl)
        refine bcN ?_
        dsimp only
        refine st_if1 (placesN.lookup z).isSome ?_ ?_
        · refine val_tstB _ (val_op (.str z) (.opq (.ref aP)) _ (v0 _) (fun Q E q => q) (fun Q q => ⟨rfl, ?_⟩))
          rw [places_look]
          simpa using q
        have nxt : ∀ pl', pl'.length ≤ i + 1 → rowsBad c rs.length ds (i + 1) pl' = R → _ := fun pl' h1 h2 => ih (i + 1) pl' (.sh (.int i)) (.sh (.tup (.str z :: zs))) (fun r hr => hfl r (List.mem_cons_of_mem _ hr)) (by simp at hi; omega) h1 h2
        cases hv : placesN.lookup z with
        | none =>
          rw [hv] at hb
          refine bcN ?_
          dsimp only
          exact nxt pl (by omega) hb
        | some v =>
          obtain ⟨y, ys, rfl⟩ := stp_place hs hv
          rw [hv] at hb
          dsimp only at hb
          have v1 : ∀ O' Q E, Q (.str y) O' → dOp ixD (dVar 4) (dC (.int 1)) [.sh (.int c), .sh d, .sh (.opq (.ref p)), .sh (.int i), .sh (.tup (.str z :: .str y :: ys))] O' Q E := fun O' => val_ix (.inr rfl) (fun Q E q => q) (fun Q E q => q) (atI_nat (xs := .str z :: .str y :: ys) (j := 1) rfl)
          have vP : ∀ O' Q E, Q (.int v) O' → dOp (pu (ixK aP placesT)) (dC (.opq (.ref aP))) (dOp ixD (dVar 4) (dC (.int 0))) [.sh (.int c), .sh d, .sh (.opq (.ref p)), .sh (.int i), .sh (.tup (.str z :: .str y :: ys))] O' Q E := fun O' => val_ixK z (.int v) (fun Q E q => q) (v0 O') (by rw [places_look, hv]; rfl)
          refine bcT ?_
          refine st_if (!decide ((valI pl (.inr y)).getD v = v)) ?_ ?_
          · refine val_tstB _ (val_op (.int ((valI pl (.inr y)).getD v)) (.int v) _ ?_ (vP _) (fun Q q => q))
            have := val_dget2 (ma := dVar 2) (ρ := [.sh (.int c), .sh d, .sh (.opq (.ref p)), .sh (.int i), .sh (.tup (.str z :: .str y :: ys))]) (.opq (.ref p)) (.str y) (.int v) (toDic pl) (.inr y) (fun Q E q => q) (v1 (oset O p (.dic (toDic pl)))) (vP _) (lk_of oset_same) rfl
            rw [valD_dic, show ((valI pl (.inr y)).map D.int).getD (.int v) = .int ((valI pl (.inr y)).getD v) by cases valI pl (.inr y) <;> rfl] at this
            exact this
          by_cases hk : (valI pl (.inr y)).getD v = v
          · rw [if_pos hk] at hb
            rw [decide_eq_true hk]
            refine bcN ?_
            dsimp only
            refine st_dput p (.str y) (.int v) (toDic pl) (.inr y) (fun Q E q => q) (v1 _) (vP _) oset_same rfl (by rw [dlen]; simp at hi; omega) ?_
            rw [oset_oset, putD_dic]
            exact nxt _ (Nat.le_trans (putI_len pl _ _) (by omega)) hb
          · rw [if_neg hk] at hb
            rw [decide_eq_false hk]
            refine bcT (val_raise [.int i] rfl ?_ ?_)
            · exact fun Q E q => q
            · exact ⟨O, sO _, qx i (bad hb.symm)⟩
theorem ok_Reader_initN {f fN fR C : Addr} {fd fdN fdR : FuncData} {AA : Str → Addr} (F : Fun K "__init__" "Reader.__init__" s_Reader_init f fd)
    (G_is_number : FnOk P w K mg base CX0 1 fN fdN ["value", "least", "most"] (spD K numS)) (T_is_number : Gf K mg "is_number" fN fdN ["value", "least", "most"])
    (G_check_rows : FnOk P w K mg base (L2N.CX P w) 3 fR fdR ["cells", "rows"] (spD K (rowsS (AA "InvalidStep")))) (T_check_rows : Gf K mg "check_rows" fR fdR ["cells", "rows"])
    (m_len : mg "len" = none) (m_enumerate : mg "enumerate" = none) (m_range : mg "range" = none) (m_tuple : mg "tuple" = none) {t1 t2 t3 : Tok} (M_MOST_CELLS : mg "MOST_CELLS" = some (.int 300 t1)) (M_MOST_ROWS : mg "MOST_ROWS" = some (.int 10000 t2)) (M_MOST_RANGE : mg "MOST_RANGE" = some (.int 10000 t3))
    (E_TooMany : Err P w K mg base 2 (AA "TooMany") "TooMany" ["most"]) (M_TooMany : mg "TooMany" = some (.ref (AA "TooMany")))
    (E_InvalidCell : Err P w K mg base 2 (AA "InvalidCell") "InvalidCell" ["at"]) (M_InvalidCell : mg "InvalidCell" = some (.ref (AA "InvalidCell")))
    (E_InvalidNumber : Err P w K mg base 2 (AA "InvalidNumber") "InvalidNumber" ["given"]) (M_InvalidNumber : mg "InvalidNumber" = some (.ref (AA "InvalidNumber")))
    (CL_Reader : Cls K C) (NA_Reader_cells : NoAttr K C "cells") (NA_Reader_rows : NoAttr K C "rows") (NA_Reader_inputs : NoAttr K C "inputs") :
    FnOk P w K mg base (L2N.CX P w) 4 f fd ["self", "cells", "rows", "inputs"] (spD K (iniS AA C)) := by
  refine fn_excFN F sc_Reader_init (fun ds O Q E h => ?_) (fun cdv A outer s H E hr tk =>
    (d_scons (d_ifS (d_tcmp od_gt (d_callB cd_len rfl m_len boot_len (d_cons (d_var (i := 1) rfl (.inl rfl) (by decide) (by decide)) d_nil rfl) (by decide) (by decide) rfl rfl) (d_globI rfl M_MOST_CELLS (by decide)) (nomark _)) (d_sone (d_raiseN rfl tk E_TooMany (hr.mono (by decide)) rfl M_TooMany (d_cons (d_globI rfl M_MOST_CELLS (by decide)) d_nil rfl) (by decide) rfl rfl)) d_snil)
      (d_scons (d_for (passes_of rfl) rfl (d_enum rfl m_enumerate (d_cons (d_var (i := 1) rfl (.inl rfl) (by decide) (by decide)) d_nil rfl) rfl) (dg_tup (n := 2) rfl (dgs_cons (dg_name (i := 4) sc_Reader_init.nd rfl (.inl rfl) (.inl rfl)) (dgs_cons (dg_name (i := 5) sc_Reader_init.nd rfl (.inl rfl) (.inl rfl)) dgs_nil rfl) rfl) rfl rfl) (d_sone (d_ifS (d_tnot (d_test (d_call G_is_number (hr.mono (by decide)) rfl T_is_number.m T_is_number.k T_is_number.b (fun _ => pass0A) (d_cons (d_var (i := 5) rfl (.inl rfl) (by decide) (by decide)) (d_cons d_int (d_cons (d_globI rfl M_MOST_RANGE (by decide)) d_nil rfl) rfl) rfl) (by decide) rfl rfl) (by intro _; rfl))) (d_sone (d_raiseN rfl tk E_InvalidCell (hr.mono (by decide)) rfl M_InvalidCell (d_cons (d_var (i := 4) rfl (.inl rfl) (by decide) (by decide)) d_nil rfl) (by decide) rfl rfl)) d_snil)) (fun _ => rfl))
      (d_scons (d_ifS (d_tnot (d_test (d_call G_is_number (hr.mono (by decide)) rfl T_is_number.m T_is_number.k T_is_number.b (fun _ => pass0A) (d_cons (d_var (i := 3) rfl (.inl rfl) (by decide) (by decide)) (d_cons d_int (d_cons (d_callB cd_len rfl m_len boot_len (d_cons (d_var (i := 1) rfl (.inl rfl) (by decide) (by decide)) d_nil rfl) (by decide) (by decide) rfl rfl) d_nil rfl) rfl) rfl) (by decide) rfl rfl) (by intro _; rfl))) (d_sone (d_raiseN rfl tk E_InvalidNumber (hr.mono (by decide)) rfl M_InvalidNumber (d_cons (d_var (i := 3) rfl (.inl rfl) (by decide) (by decide)) d_nil rfl) (by decide) rfl rfl)) d_snil)
      (d_scons (d_for (passes_of rfl) rfl (d_rng1 rfl m_range (d_cons (d_var (i := 3) rfl (.inl rfl) (by decide) (by decide)) d_nil rfl) rfl) (dg_name (i := 4) sc_Reader_init.nd rfl (.inl rfl) (.inl rfl)) (d_sone (d_ifS (d_tcmp (od_ne hr.units) (d_ix (d_var (i := 1) rfl (.inl rfl) (by decide) (by decide)) (d_var (i := 4) rfl (.inl rfl) (by decide) (by decide)) (fun _ _ => rfl)) d_int (nomark _)) (d_sone (d_raiseN rfl tk E_InvalidCell (hr.mono (by decide)) rfl M_InvalidCell (d_cons (d_var (i := 4) rfl (.inl rfl) (by decide) (by decide)) d_nil rfl) (by decide) rfl rfl)) d_snil)) (fun _ => rfl))
      (d_scons (d_ifS (d_tcmp od_gt (d_callB cd_len rfl m_len boot_len (d_cons (d_var (i := 2) rfl (.inl rfl) (by decide) (by decide)) d_nil rfl) (by decide) (by decide) rfl rfl) (d_globI rfl M_MOST_ROWS (by decide)) (nomark _)) (d_sone (d_raiseN rfl tk E_TooMany (hr.mono (by decide)) rfl M_TooMany (d_cons (d_globI rfl M_MOST_ROWS (by decide)) d_nil rfl) (by decide) rfl rfl)) d_snil)
      (d_scons (d_expr (d_call G_check_rows (hr.mono (by decide)) rfl T_check_rows.m T_check_rows.k T_check_rows.b (fun σ => tkN_pass tk σ) (d_cons (d_callB cd_len rfl m_len boot_len (d_cons (d_var (i := 1) rfl (.inl rfl) (by decide) (by decide)) d_nil rfl) (by decide) (by decide) rfl rfl) (d_cons (d_var (i := 2) rfl (.inl rfl) (by decide) (by decide)) d_nil rfl) rfl) (by decide) rfl rfl) rfl)
      (d_scons (d_setF CL_Reader NA_Reader_cells (d_var (i := 0) rfl (.inl rfl) (by decide) (by decide)) (d_callTy cd_tuple rfl m_tuple boot_tuple (d_cons (d_var (i := 1) rfl (.inl rfl) (by decide) (by decide)) d_nil rfl) (by decide) (by decide) rfl rfl) rfl)
      (d_scons (d_setF CL_Reader NA_Reader_rows (d_var (i := 0) rfl (.inl rfl) (by decide) (by decide)) (d_callTy cd_tuple rfl m_tuple boot_tuple (d_cons (d_var (i := 2) rfl (.inl rfl) (by decide) (by decide)) d_nil rfl) (by decide) (by decide) rfl rfl) rfl)
      (d_sone (d_setF CL_Reader NA_Reader_inputs (d_var (i := 0) rfl (.inl rfl) (by decide) (by decide)) (d_var (i := 3) rfl (.inl rfl) (by decide) (by decide)) rfl))))))))))) (fun ds O Q E h => ?_)
  · obtain ⟨p, dc, dr, inp, cs, rs, rfl, _⟩ := h; rfl
  · obtain ⟨p, dc, dr, inp, cs, rs, rfl, ep, hc, hr, lc, lr, tc, ti, tr, q, qx⟩ := h
    rw [show startD N_Reader_init [.opq (.ref p), dc, dr, inp] = [.sh (.opq (.ref p)), .sh dc, .sh dr, .sh inp, .un, .un] from rfl]
    have R0 : rdX AA cs rs inp = rdX AA cs rs inp := rfl
    conv at R0 => rhs; unfold rdX
    refine st_if (decide ((300 : Int) < (cs.length : Int))) ?_ ?_
    · exact val_tstB _ (val_op (.int cs.length) (.int 300) _ (val_len hc fun Q E q => q) (fun Q E q => q) (fun Q q => q))
    by_cases h1 : 300 < cs.length
    · rw [if_pos h1] at R0
      rw [decide_eq_true (by omega)]
      refine bcT (val_raise [.int 300] rfl ?_ ?_)
      · exact fun Q E q => q
      · exact ⟨O, OSub.refl O, qx _ R0⟩
    rw [if_neg h1] at R0
    rw [decide_eq_false (by omega)]
    refine bcN ?_
    dsimp only
    refine st_forJ (enumL cs) (fun i ρ => (∃ s4 s5, ρ = [.sh (.opq (.ref p)), .sh dc, .sh dr, .sh inp, s4, s5]) ∧ ∀ j, j < i → isNum (cs.getD j .non) 0 10000 = true) ?_ ⟨⟨_, _, rfl⟩, fun j h => by omega⟩ ?_ ?_
    · exact val_enum hc fun Q E q => q
    · rintro i d hd ρ ⟨⟨s4, s5, rfl⟩, hj⟩ N hN
      obtain ⟨x, ex, rfl⟩ := enum_at hd
      have hi : i < cs.length := (List.getElem?_eq_some_iff.mp ex).1
      refine tg_tup rfl (tg_pair [.sh (.opq (.ref p)), .sh dc, .sh dr, .sh inp, .sh (.int i), .sh x] rfl ?_)
      refine st_if1 (!isNum x 0 10000) ?_ ?_
      · exact val_not _ (val_tst _ (val_call [x, .int 0, .int 10000] _ (fun Q E q => q) (fun Q E q => ⟨x, 0, 10000, rfl, tc x (List.mem_of_getElem? ex), q⟩)))
      cases hn : isNum x 0 10000 with
      | false =>
        have : cellBad cs = some i := find_at hi (by rw [getD_of ex, hn]; rfl) fun j h => by rw [hj j h]; rfl
        rw [this] at R0
        refine bcT (val_raise [.int i] rfl ?_ ?_)
        · exact fun Q E q => q
        · exact ⟨O, OSub.refl O, qx _ R0⟩
      | true =>
        refine bcN ?_
        refine hN _ ⟨⟨_, _, rfl⟩, fun j h => ?_⟩
        by_cases e : j = i
        · subst e; rw [getD_of ex]; exact hn
        · exact hj j (by omega)
    rw [enum_len]
    rintro ρ ⟨⟨s4, s5, rfl⟩, hall⟩
    have hcb : cellBad cs = none := find_no fun j h => by rw [hall j h]; rfl
    rw [hcb] at R0
    dsimp only at R0
    refine st_if (!isNum inp 0 cs.length) ?_ ?_
    · exact val_not _ (val_tst _ (val_call [inp, .int 0, .int cs.length] _ (val_cons _ _ (fun Q E q => q) (val_cons _ _ (fun Q E q => q) (val_cons _ _ (val_len hc fun Q E q => q) val_nil))) (fun Q E q => ⟨inp, 0, cs.length, rfl, ti, q⟩)))
    cases hn : isNum inp 0 cs.length with
    | false =>
      rw [hn, if_pos rfl] at R0
      refine bcT (val_raise [inp] rfl ?_ ?_)
      · exact fun Q E q => q
      · exact ⟨O, OSub.refl O, qx _ R0⟩
    | true =>
      rw [hn, if_neg (by decide)] at R0
      refine bcN ?_
      dsimp only
      obtain ⟨n, rfl⟩ : ∃ n, inp = .int n := by
        unfold isNum at hn
        split at hn
        · exact ⟨_, rfl⟩
        · cases hn
      have hn0 : 0 ≤ n ∧ n ≤ cs.length := by simpa [isNum] using hn
      dsimp only at R0
      refine st_forJ (rngD 0 n.toNat) (fun i ρ => (∃ s4 s5, ρ = [.sh (.opq (.ref p)), .sh dc, .sh dr, .sh (.int n), s4, s5]) ∧ ∀ j, j < i → isZero (cs.getD j .non) = true) ?_ ⟨⟨_, _, rfl⟩, fun j h => by omega⟩ ?_ ?_
      · exact fun Q E q => ⟨by omega, by have : sizeLine < 2 ^ 62 := by decide
                                         omega, q⟩
      · rintro i d hd ρ ⟨⟨s4, s5, rfl⟩, hj⟩ N hN
        obtain ⟨hi, rfl⟩ := rng_at hd
        have hic : i < cs.length := by omega
        have ex : cs[i]? = some cs[i] := List.getElem?_eq_getElem hic
        refine tg_one [.sh (.opq (.ref p)), .sh dc, .sh dr, .sh (.int n), .sh (.int i), s5] rfl ?_
        have hx := hall i hic
        rw [getD_of ex] at hx
        obtain ⟨m, em⟩ : ∃ m, cs[i] = .int m := by
          unfold isNum at hx
          split at hx
          · rename_i e; exact ⟨_, e⟩
          · cases hx
        rw [em] at ex
        refine st_if1 (!decide (m = 0)) ?_ ?_
        · exact val_tstB _ (val_op (.int m) (.int 0) _ (val_ix hc (fun Q E q => q) (fun Q E q => q) (atI_nat ex)) (fun Q E q => q) (fun Q q => q))
        by_cases hm : m = 0
        · rw [decide_eq_true hm]
          refine bcN ?_
          refine hN _ ⟨⟨_, _, rfl⟩, fun j h => ?_⟩
          by_cases e : j = i
          · subst e; rw [getD_of ex]; simp [isZero, hm]
          · exact hj j (by omega)
        · rw [decide_eq_false hm]
          have : wideAt cs n.toNat = some i := find_at hi (by rw [getD_of ex]; simp [isZero, hm]) fun j h => by rw [hj j h]; rfl
          rw [this] at R0
          refine bcT (val_raise [.int i] rfl ?_ ?_)
          · exact fun Q E q => q
          · exact ⟨O, OSub.refl O, qx _ R0⟩
      rw [show (rngD 0 n.toNat).length = n.toNat by simp [rngD]]
      rintro ρ ⟨⟨s4, s5, rfl⟩, hzero⟩
      have hw : wideAt cs n.toNat = none := find_no fun j h => by rw [hzero j h]; rfl
      rw [hw] at R0
      dsimp only at R0
      refine st_if (decide ((10000 : Int) < (rs.length : Int))) ?_ ?_
      · exact val_tstB _ (val_op (.int rs.length) (.int 10000) _ (val_len hr fun Q E q => q) (fun Q E q => q) (fun Q q => q))
      by_cases h2 : 10000 < rs.length
      · rw [if_pos h2] at R0
        rw [decide_eq_true (by omega)]
        refine bcT (val_raise [.int 10000] rfl ?_ ?_)
        · exact fun Q E q => q
        · exact ⟨O, OSub.refl O, qx _ R0⟩
      rw [if_neg h2] at R0
      rw [decide_eq_false (by omega)]
      refine bcN ?_
      dsimp only
      refine val_len hc (fun Q E q => q) _ _ ?_
      refine spM.of ⟨cs.length, dr, rs, rfl, hr, lr, tr, fun hk => ?_, fun i hk => ?_⟩
      · rw [hk] at R0
        dsimp only
        refine st_fld p (.tup cs) [] ?_ ?_ ep (by decide) ?_
        · exact val_tupO hc fun Q E q => q
        · exact fun Q E q => q
        refine st_fld p (.tup rs) [("cells", .tup cs)] ?_ ?_ oset_same (Nat.lt_of_lt_of_le (show 1 < 2 by decide) (by decide)) ?_
        · exact val_tupO hr fun Q E q => q
        · exact fun Q E q => q
        rw [oset_oset]
        refine st_fld1 p (.int n) [("cells", .tup cs), ("rows", .tup rs)] ?_ ?_ oset_same (Nat.lt_of_lt_of_le (show 2 < 3 by decide) (by decide)) ?_
        · exact fun Q E q => q
        · exact fun Q E q => q
        rw [oset_oset]
        exact ⟨_, OSub.refl _, q R0⟩
      · rw [hk] at R0
        exact ⟨O, OSub.refl O, qx _ R0⟩
end
end LW
set_option Elab.async false
set_option linter.all false
set_option maxRecDepth 100000
set_option maxHeartbeats 4000000
namespace L2
open PySem PySem.Spec PyProof.Rows
section
variable {X : Cx} {pins : List (Addr × Obj)} {σ : St} {H : Hp} {s : Shared}
/-- the block of a comprehension, with a wish about what is raised in it -/
abbrev blkE (X : Cx) (s : Shared) (H : Hp) (scope : Scope) (cenv : Env) (fp : List Addr) (xe : Value → Shared → Prop) : Cx := { X.blk s H scope cenv fp with xe := xe }
theorem Inv.xeb {s0 : Shared} {H0 : Hp} {scope : Scope} {ce : Env} {fp : List Addr} (I : Inv (X.blk s0 H0 scope ce fp) pins σ H s) (xe : Value → Shared → Prop) : Inv (blkE X s0 H0 scope ce fp xe) pins σ H s := by
  obtain ⟨⟨o1, o2, o3, o4, o5, o6, o7, o8, o9, o10, o11, o12, o13, o14, o15, o16, o17, o18⟩, i2, i3, i4, i5, i6, i7, i8, i9, i10, i11⟩ := I
  exact ⟨⟨o1, o2, o3, o4, o5, o6, o7, o8, o9, o10, o11, o12, o13, o14, o15, o16, o17, o18⟩, i2, i3, i4, i5, i6, i7, i8, i9, i10, i11⟩
theorem Inv.xeu {s0 : Shared} {H0 : Hp} {scope : Scope} {ce : Env} {fp : List Addr} {xe : Value → Shared → Prop} (I : Inv (blkE X s0 H0 scope ce fp xe) pins σ H s) : Inv (X.blk s0 H0 scope ce fp) pins σ H s := by
  obtain ⟨⟨o1, o2, o3, o4, o5, o6, o7, o8, o9, o10, o11, o12, o13, o14, o15, o16, o17, o18⟩, i2, i3, i4, i5, i6, i7, i8, i9, i10, i11⟩ := I
  exact ⟨⟨o1, o2, o3, o4, o5, o6, o7, o8, o9, o10, o11, o12, o13, o14, o15, o16, o17, o18⟩, i2, i3, i4, i5, i6, i7, i8, i9, i10, i11⟩
/-- what a call in the element raises goes out of the comprehension, then out of the def's expression -/
theorem comp_out {E : XK} {ce : Env} {use : Option (Value → Sem Unit)} {Qf : Value → Shared → Prop} {D : Addr} {sc s' : Shared} {Hc : Hp} {e : Value} {m : Str → Option Value} (hs0 : X.stack = X.env :: X.outer) (hf0 : X.env.frame = some X.env.locals) (tk : Takes X (fun cls d _ H => E cls d H)) (cF : ce.frame = X.env.frame)
    (I : Inv X pins σ Hc sc) (nC : Hc ce.locals = none) (fC : ∀ H', H' ce.locals = none → FpOk X pins H' ce.locals) (hn : sc.heap.Ns ce.locals m) (cx : CX X.prog X.w X.stack Hc sc E e s') :
    notedBy (model X.prog X.w) X.A ce (fun e s' => compEnds (model X.prog X.w) X.A X.xe use Qf (.ref D) ce (.error e) s') e s' := by
  have hfr : X.A.frames = some (X.env :: X.outer) := by rw [I.ok.frames, hs0]
  obtain ⟨a, B, H', cls, d, rfl, fl, hok, ub, na, os, ag, hE⟩ := cx
  have nC' : H' ce.locals = none := by
    obtain ⟨o, es, ep, ho, hd, r⟩ := hn
    exact ub.free _ o ho nC
  have f0 := fC H' nC'
  have nCf : ce.locals ∉ frs X.stack := by
    intro hm
    rcases List.mem_cons.mp (I.stkSub _ hm) with z | z
    · exact f0.2.1 z
    · exact f0.2.2.1 z
  -- the block's dict stands in the ground
  obtain ⟨oC, es, ep, hoC, hdC, rC⟩ := hn
  have bC : B.get? ce.locals = some oC := ub.keep _ oC hoC nC nCf
  obtain ⟨B', b1, b2⟩ := restrict B fun b => decide (b ≠ ce.locals)
  have bK : ∀ b, b ≠ ce.locals → B'.get? b = B.get? b := fun b hb => b1 b (decide_eq_true hb)
  have bN : B'.get? ce.locals = none := b2 _ (by simp)
  have bS : ∀ b o, B'.get? b = some o → B.get? b = some o ∧ b ≠ ce.locals := fun b o e => by
    have hb : b ≠ ce.locals := fun z => by rw [z, bN] at e; cases e
    exact ⟨by rw [← bK b hb]; exact e, hb⟩
  rw [hs0] at fl
  have fin : ∀ h1, HandSPX.HeldZ B (X.env :: X.outer) a (Zc cls d) X.env.locals h1 → s'.heap.UpToSlots h1 → CompFails (model X.prog X.w) X.A X.xe ce (.ref a) { s' with heap := h1 } := by
    intro h1 ⟨k1, k2, k3, oe, vs, T, oT, ts, he, hz, hd, hv1, hnT, hTe, hT, hdT, hv3⟩ up1
    have c1 : h1.get? ce.locals = some oC := k1 _ _ bC
    refine ⟨m, ⟨oC, es, ep, c1, hdC, rC⟩, fun h2 m2 hn2 hsb => ?_⟩
    have aC : a ≠ ce.locals := fun z => by rw [z, c1] at he; cases he; rw [hdC] at hd; cases hd
    have TC : T ≠ ce.locals := fun z => by rw [z, c1] at hT; cases hT; rw [hdC] at hdT; cases hdT
    have s2 : B'.StaysIn h2 := fun b o e => by
      obtain ⟨e1, hb⟩ := bS b o e
      exact (hsb.2 b hb).trans (k1 b o e1)
    have nB' : ∀ L ∈ frs (X.env :: X.outer), B'.get? L = none := fun L hL => by
      cases q : B'.get? L with
      | none => rfl
      | some o =>
        have := (bS L o q).1
        rw [(k3.mem hL).1] at this; cases this
    have k3' : h2.FunFrames B' (X.env :: X.outer) := funFrames_none (Heap.FunFrames.sameBut hsb hn2 k3) nB'
    have hH : HandSPX.HeldZ B' (X.env :: X.outer) a (Zc cls d) X.env.locals h2 := by
      refine ⟨s2, ?_, k3', oe, vs, T, oT, ts, (hsb.2 a aC).trans he, hz, hd, hv1, ?_, hTe, (hsb.2 T TC).trans hT, hdT, hv3⟩
      · rw [bK a aC]; exact k2
      · rw [bK T TC]; exact hnT
    unfold PySem.passOn
    refine wpAny_bind (wpAny_field ((hsb.2 a aC).trans he) hd hv1 ?_)
    rw [if_neg (show ¬ ((Value.ref T == Value.none) = true) from by simp), cF, hf0]
    refine wpAny_bind (HandSPX.setFlight_onZ hH fun h3 hh3 up3 => wpAny_throw (tk _ _ ?_))
    -- back in the def's air
    obtain ⟨G, g1, g2⟩ := restrict h3 fun b => (B'.get? b).isSome || decide (b ∈ frs X.stack)
    have st : B'.StaysIn h3 := hh3.1
    have gB : ∀ b o, B'.get? b = some o → G.get? b = some o := fun b o e => by
      rw [g1 b (by simp [e])]
      exact st b o e
    have gF : ∀ b, b ∈ frs X.stack → G.get? b = h3.get? b := fun b hb => g1 b (by simp [hb])
    have og : ∀ b o, G.get? b = some o → h3.get? b = some o ∧ ((B'.get? b).isSome = true ∨ b ∈ frs X.stack) := fun b o e => by
      cases q : ((B'.get? b).isSome || decide (b ∈ frs X.stack)) with
      | false => rw [g2 b q] at e; cases e
      | true =>
        rw [g1 b q] at e
        exact ⟨e, by simpa [Bool.or_eq_true] using q⟩
    have hokB : HOk X.prog X.w H' B' := fun b u q => (hok b u q).stay (fun c v hc r => (bK c fun z => by
      rcases hc with hc | hc
      · rw [← hc, z, nC'] at q; cases q
      · rw [z, nC'] at hc; cases hc).trans r) (fun _ r => r) fun _ _ r => r
    have slot : ∀ b o, sc.heap.get? b = some o → b ∈ frs X.stack → b ≠ ce.locals → ∃ sl, G.get? b = some { o with slots := sl } := fun b o e hb hbC => by
      obtain ⟨sl, q⟩ := ub.slot b o e hb
      rw [hs0] at hb
      obtain ⟨_, o', e', nf⟩ := fl.2.2.1.mem hb
      rw [q] at e'; cases e'
      obtain ⟨sl1, q1⟩ := up1 b _ q nf
      have q2 := (hsb.2 b hbC).trans q1
      obtain ⟨sl3, q3⟩ := up3 b _ q2 nf
      exact ⟨sl3, by rw [gF b (by rw [hs0]; exact hb)]; exact q3⟩
    refine ⟨a, B', { sc with heap := G, gens := s'.gens, drawn := s'.drawn, toks := s'.toks }, pins, σ, H', cls, d, rfl, ?_, fun b o e hb => ?_, Heap.UpToSlots.of_keeps fun b o e => (og b o e).1, .inr (.inr (by rw [hs0]; exact hh3)), na, os, ag, hE⟩
    · refine I.call (ch := [ce.locals]) ⟨fun b o e n hb hc => ?_, fun b o e n hb hc => ?_, fun b o e n _ => ub.free b o e n, fun b o e hc => ?_, ub.tups, ub.frzs, ub.tbls⟩ (hokB.kept gB) ag (fun b hb => ?_)
      · have hbC : b ≠ ce.locals := fun z => hc (by simp [z])
        exact gB b o ((bK b hbC).trans (ub.keep b o e n hb))
      · exact slot b o e hb fun z => hc (by simp [z])
      · have hbC : b ≠ ce.locals := fun z => hc (by simp [z])
        by_cases hb : b ∈ frs X.stack
        · obtain ⟨sl, q⟩ := slot b o e hb hbC
          exact ⟨_, q⟩
        · obtain ⟨o', q⟩ := ub.there b o e hb
          exact ⟨o', gB b o' ((bK b hbC).trans q)⟩
      · rw [List.mem_singleton] at hb
        subst hb
        exact ⟨f0.2.2.2.1, f0.2.1, f0.2.2.2.2.1, f0.2.2.2.2.2⟩
    · obtain ⟨e', h⟩ := og b o e
      rcases h with h | h
      · obtain ⟨o', q⟩ := Option.isSome_iff_exists.mp h
        have z := st b o' q
        rw [e'] at z; cases z
        exact q
      · exact absurd h hb
  show wpAny (model X.prog X.w) X.A (noteFrame (.ref a) ce) _ _ s'
  rw [noteFrame_env _ cF]
  refine HandSPX.looks_onZ Zc.steady hfr hf0 fl fun h1 hh up => ?_
  have := fin h1 hh up
  cases use <;> exact this
theorem lc_coreX {E : XK} {pins : List (Addr × Obj)} {s : Shared} {σ : St} {H : Hp} {Q : VK} {elt tg iter : Expr} {ifs : List Expr} {scope : Scope} {own : List (Str × Nat)} {pos pos' : Pos} {wi : TI} {g : TG} {tt : TT} {te : TE} {use : Option (Value → Sem Unit)} {Qf : Value → Shared → Prop}
    (hs0 : X.stack = X.env :: X.outer) (hf0 : X.env.frame = some X.env.locals) (tk : Takes X (fun cls d _ H => E cls d H)) (hc : X.calm = true) (hN : X.N.Nodup) (I : Inv X pins σ H s) (hi : PI X tg iter wi) (ok : BlkOk X.N X.env.scope scope own)
    (hg : ∀ (s : Shared) (H : Hp) (C : Addr) (cl : List (Str × Addr)) (fp : List Addr), PG (X.blk s H scope (compEnvC scope cl C X.env) fp) tg g) (ht : ∀ (s : Shared) (H : Hp) (C : Addr) (cl : List (Str × Addr)) (fp : List Addr), PTs (X.blk s H scope (compEnvC scope cl C X.env) fp) ifs tt)
    (he : ∀ (s : Shared) (H : Hp) (C : Addr) (cl : List (Str × Addr)) (fp : List Addr) (xe : Value → Shared → Prop), (∀ σ', PassesAt (L2.CX X.prog X.w) (blkE X s H scope (compEnvC scope cl C X.env) fp xe) σ' E) → PE (blkE X s H scope (compEnvC scope cl C X.env) fp xe) elt te) (hs : ∀ x, foldedSetIterable iter X.env x = pure x)
    (h : tLc wi g tt te (own.map (·.2)) σ H Q)
    (hRR : ∀ D C s' m H', Inv X pins σ H' s' → Q (.ref D) H' → s'.heap.Ns C m → FpOk X pins H' C → compPost (model X.prog X.w) X.A X.xe use Qf (.ref D) C (.ok .next) s') :
    wpAny (model X.prog X.w) X.A (comprehension (.ListComp elt [⟨tg, iter, ifs, 0⟩] scope pos) scope X.env pos' (newList []) false (eval iter X.env) use) Qf X.xe s := by
  have hfree : ∀ y ∈ scope.names, y.2 = .free → ∃ c, X.env.cells.lookup y.1 = some c := fun y hy e => by
    rcases ok.free y hy e with k | k
    · exact I.ok.has _ (.inl k)
    · exact I.ok.has _ (.inr k)
  refine comprehension_at (use := use) rfl hs (closure_ok hfree) ok.kind (fun y hy e => by rw [ok.uniq y hy, e])
    (thn (hi.run pins s σ H _ I h) fun xv s1 hx => thn hx fun itv s2 h2 => ?_)
  obtain ⟨it, fp, tn, J, H2, e, I2, T, st2, f2, q⟩ := h2
  subst e
  refine wpAny_newObj_type (newEnv_comp ?_) (by show 0 ≤ sizeLine; decide)
  generalize hD : s2.heap.objs.size = D
  have hDn : H2 D = none := I2.hok.fresh (Nat.le_of_eq hD)
  obtain ⟨W, ⟨m0, w0⟩, turn⟩ := q D hDn
  -- the new list
  generalize hs3 : ({ s2 with heap := s2.heap.push { cls := .type "list", data := .seq ([] : List Value).toArray } } : Shared) = s3
  have I3 : Inv X pins σ (upd H2 D (.lst [])) s3 := by
    rw [← hs3]
    refine I2.laid (t' := s2.toks) (fun b o e => Heap.get?_push_of_some _ e) (Nat.le_of_eq hD) ⟨Nat.zero_le _, [], 0, .nil, ?_⟩
    rw [← hD]
    exact Heap.get?_push_size _ rfl
  have h3 : s3.heap = s2.heap.push { cls := .type "list", data := .seq ([] : List Value).toArray } := by rw [← hs3]
  have sz : ∀ b ∈ fp, b < s2.heap.objs.size := fun b hb => by
    obtain ⟨o, e, _⟩ := T.obj _ _ st2 b hb
    exact Heap.lt_size e
  have f3 : ∀ b ∈ fp, FpOk X pins (upd H2 D (.lst [])) b ∧ b < s3.heap.objs.size := fun b hb => by
    have hlt := sz b hb
    refine ⟨⟨?_, (f2 b hb).2⟩, by rw [h3, Heap.size_push]; exact Nat.lt_succ_of_lt hlt⟩
    rw [upd_ne (by rw [← hD]; exact Nat.ne_of_lt hlt)]
    exact (f2 b hb).1
  have st3 : tn 0 s3.heap := T.keep _ _ _ st2 fun b _ o e => by rw [h3]; exact Heap.get?_push_of_some _ e
  have I4 := block_start I3 ok hN f3
  have pg := hg s3 (upd H2 D (.lst [])) s3.heap.objs.size (cellsFrom (s3.heap.objs.size + 1) scope.names (cloFrom X.env.cells scope.names [])) fp
  have pt := ht s3 (upd H2 D (.lst [])) s3.heap.objs.size (cellsFrom (s3.heap.objs.size + 1) scope.names (cloFrom X.env.cells scope.names [])) fp
  have pe0 := he s3 (upd H2 D (.lst [])) s3.heap.objs.size (cellsFrom (s3.heap.objs.size + 1) scope.names (cloFrom X.env.cells scope.names [])) fp
  show codeAny _ _ (.compStart (.ListComp elt [⟨tg, iter, ifs, 0⟩] scope pos) 0 (.ref it) (.ref D) (compEnvC scope (cellsFrom (s3.heap.objs.size + 1) scope.names (cloFrom X.env.cells scope.names [])) s3.heap.objs.size X.env)) (compEnds (model X.prog X.w) X.A X.xe use Qf (.ref D) (compEnvC scope (cellsFrom (s3.heap.objs.size + 1) scope.names (cloFrom X.env.cells scope.names [])) s3.heap.objs.size X.env)) { s3 with heap := pushCells (s3.heap.push { cls := .type "dict", data := .dict #[] }) scope.names }
  have nfp : ∀ b ∈ fp, (upd H2 D (.lst [])) b = none := fun b hb => (f3 b hb).1.1
  generalize hce : compEnvC scope (cellsFrom (s3.heap.objs.size + 1) scope.names (cloFrom X.env.cells scope.names [])) s3.heap.objs.size X.env = ce at I4 pg pt pe0 ⊢
  have cL : ce.locals = s3.heap.objs.size := by subst hce; rfl
  have cF : ce.frame = X.env.frame := by subst hce; rfl
  generalize hH3 : upd H2 D (.lst []) = H3 at I3 I4 pg pt pe0 w0 nfp f3
  generalize hs4 : ({ s3 with heap := pushCells (s3.heap.push { cls := .type "dict", data := .dict #[] }) scope.names } : Shared) = s4 at I4 ⊢
  have st4 : tn 0 s4.heap := T.keep _ _ _ st3 fun b _ o e => by rw [← hs4]; exact pushCells_keeps _ _ _ _ (Heap.get?_push_of_some _ e)
  have stat : ∀ {σ' : St} {H' : Hp} {s' : Shared}, Inv (X.blk s3 H3 scope ce fp) [] σ' H' s' → (∀ b ∈ fp, H' b = none) → ∀ b ∈ fp, FpOk (X.blk s3 H3 scope ce fp) [] H' b := fun {σ' H' s'} I' hn b hb =>
    ⟨hn b hb, (I'.ok.exf b hb).1, I'.ok.exfs b hb, .inl hb, fun x c e => (I'.ok.exf b hb).2 x c e, fun p hp => absurd (show p ∈ ([] : List (Addr × Obj)) ++ [] from hp) (by simp)⟩
  have pass : ∀ σ', PassesAt (L2.CX X.prog X.w) (blkE X s3 H3 scope ce fp (notedBy (model X.prog X.w) X.A ce fun e s' => compEnds (model X.prog X.w) X.A X.xe use Qf (.ref D) ce (.error e) s')) σ' E := by
    intro σ' pins' Hc sc e s' Ib cx
    have Idef : Inv X pins σ Hc sc := I3.call' (ch := fp) Ib.os Ib.base Ib.hok Ib.bare fun b hb => ⟨(f3 b hb).1.2.2.2.1, (f3 b hb).1.2.1, (f3 b hb).1.2.2.2.2.1, (f3 b hb).1.2.2.2.2.2⟩
    have nC : Hc ce.locals = none := Ib.free
    have fC : ∀ H', H' ce.locals = none → FpOk X pins H' ce.locals := fun H' h => by
      rw [cL] at h ⊢
      exact I3.fpOk (Nat.le_refl _) h
    obtain ⟨m, hn, _⟩ := Ib.loc
    exact comp_out hs0 hf0 tk cF Idef nC fC hn cx
  have loop : codeAny (model X.prog X.w) X.A (.compLoop (.ListComp elt [⟨tg, iter, ifs, 0⟩] scope pos) 0 (.ref it) (.ref D) ce) (compEnds (model X.prog X.w) X.A X.xe use Qf (.ref D) ce) s4 := by
    refine compLoop_any (fun n s' => ∃ i H', Inv (X.blk s3 H3 scope ce fp) [] (wipe σ (own.map (·.2))) H' s' ∧ tn i s'.heap ∧ (∀ b ∈ fp, H' b = none) ∧ W i n H') ?_ m0 ⟨0, H3, I4, st4, nfp, w0⟩
    rintro n s5 ⟨i, H5, I5, st5, n5, w5⟩
    rcases turn i n H5 w5 with ⟨stop, qq⟩ | ⟨go, Nx, hNx, step⟩
    · have td := T.done (X.blk s3 H3 scope ce fp) rfl rfl rfl hc i [] s5 _ H5 (fun _ _ => False) I5 (stat I5 n5) st5 stop
      refine thnF td fun r s6 ⟨hr, I6⟩ => ?_
      subst hr
      -- back in the def's context
      have I7 : Inv X pins σ H5 s6 := I3.call' (ch := fp) I6.os I6.base I6.hok I6.bare fun b hb => ⟨(f3 b hb).1.2.2.2.1, (f3 b hb).1.2.1, (f3 b hb).1.2.2.2.2.1, (f3 b hb).1.2.2.2.2.2⟩
      have nC : H5 s3.heap.objs.size = none := by
        have z : H5 ce.locals = none := I6.free
        rw [cL] at z
        exact z
      obtain ⟨m, hn, _⟩ := I6.loc
      have hn : s6.heap.Ns ce.locals m := hn
      rw [cL] at hn
      have hend := hRR D s3.heap.objs.size s6 m H5 I7 qq hn (I3.fpOk (Nat.le_refl _) nC)
      rw [← cL] at hend
      show compEnds _ _ _ _ _ _ _ _ _
      cases use <;> exact hend
    · have ti := T.item (X.blk s3 H3 scope ce fp) rfl rfl rfl hc i [] s5 _ H5 (fun _ _ => False) I5 (stat I5 n5) st5 go
      refine thnF ti fun r s6 ⟨u, hr, h6⟩ => ?_
      subst hr
      refine thnF h6 fun _ s7 ⟨x, H7, I7, r7, y7, st7, n7⟩ => ?_
      have I7' := I7.pinned (stat I7 n7) (T.obj _ _ st7)
      refine thnF (pg.run _ s7 _ H7 x u _ I7' r7 (step x H7 y7)) fun _ s8 ⟨σ8, H8, I8, hw8, q8⟩ => ?_
      refine thnF (pt.run _ s8 σ8 H8 _ I8 q8) fun b s9 ⟨H9, I9, q9⟩ => ?_
      -- the turn's end
      have fin : ∀ {s' : Shared} {H' : Hp}, Inv (X.blk s3 H3 scope ce fp) ([] ++ pinsAt fp s7.heap) σ8 H' s' → Nx H' → ∃ m, m < n ∧ ∃ i H', Inv (X.blk s3 H3 scope ce fp) [] (wipe σ (own.map (·.2))) H' s' ∧ tn i s'.heap ∧ (∀ b ∈ fp, H' b = none) ∧ W i m H' := fun {s' H'} I' nx => by
        obtain ⟨m', hm, w'⟩ := hNx H' nx
        have pin' : ∀ b ∈ fp, ∀ o, s7.heap.get? b = some o → s'.heap.get? b = some o ∧ H' b = none := fun b hb o e =>
          let z := I'.pin (b, o) (List.mem_append_right _ (List.mem_append_right _ (mem_pinsAt hb e)))
          ⟨z.1, z.2.1⟩
        have hl : (wipe σ (own.map (·.2))).length = σ8.length := by rw [← hw8, wipe_length]
        refine ⟨m', hm, i + 1, H', (I'.unpinned (pins := [])).weak hl (fun j v e => ?_), T.keep _ _ _ st7 fun b hb o e => (pin' b hb o e).1, fun b hb => ?_, w'⟩
        · rw [← hw8] at e
          exact (wipe_some e).1
        · obtain ⟨o, e, _⟩ := T.obj _ _ st7 b hb
          exact (pin' b hb o e).2
      cases b with
      | false =>
        simp only [Bool.false_eq_true, if_false] at q9 ⊢
        exact fin I9 q9
      | true =>
        simp only [if_true] at q9 ⊢
        refine wpAny_mono ((pe0 (notedBy (model X.prog X.w) X.A ce fun e s' => compEnds (model X.prog X.w) X.A X.xe use Qf (.ref D) ce (.error e) s') pass).run _ s9 σ8 H9 _ (I9.xeb _) q9) (fun z s10 ⟨yv, H10, I10, r10, acc, hD10, hz10, nx⟩ => ?_) fun _ _ z => z
        exact app_ok (X := X.blk s3 H3 scope ce fp) (I10.xeu) hD10 hz10 r10 fun s11 I11 => fin I11 nx
  exact codeAny_compStart_list loop (T.self X.A 0 _ _ _ st4 loop)
/-- name = [..] on one line, the name a local -/
theorem ps_setLcX {E : XK} {i : Nat} {y : Str} {py : Pos} {elt tg iter : Expr} {ifs : List Expr} {scope : Scope} {own : List (Str × Nat)} {pos spos : Pos} {wi : TI} {g : TG} {tt : TT} {te : TE} (hs0 : X.stack = X.env :: X.outer) (hf0 : X.env.frame = some X.env.locals) (tk : Takes X (fun cls d _ H => E cls d H)) (hc : X.calm = true) (hN : X.N.Nodup) (hy : X.N[i]? = some y) (hyl : X.env.scope.names.lookup y = some .local)
    (hsw : swapsWith (.ListComp elt [⟨tg, iter, ifs, 0⟩] scope pos) (some (.Name y py)) spos.line X.env = pure true) (hi : PI X tg iter wi) (ok : BlkOk X.N X.env.scope scope own)
    (hg : ∀ (s : Shared) (H : Hp) (C : Addr) (cl : List (Str × Addr)) (fp : List Addr), PG (X.blk s H scope (compEnvC scope cl C X.env) fp) tg g) (ht : ∀ (s : Shared) (H : Hp) (C : Addr) (cl : List (Str × Addr)) (fp : List Addr), PTs (X.blk s H scope (compEnvC scope cl C X.env) fp) ifs tt)
    (he : ∀ (s : Shared) (H : Hp) (C : Addr) (cl : List (Str × Addr)) (fp : List Addr) (xe : Value → Shared → Prop), (∀ σ', PassesAt (L2.CX X.prog X.w) (blkE X s H scope (compEnvC scope cl C X.env) fp xe) σ' E) → PE (blkE X s H scope (compEnvC scope cl C X.env) fp xe) elt te) (hs : ∀ x, foldedSetIterable iter X.env x = pure x := by intro _; rfl) :
    PS X (.Assign [.Name y py] (.ListComp elt [⟨tg, iter, ifs, 0⟩] scope pos) spos) (tAsg (tLc wi g tt te (own.map (·.2))) (gName i)) := by
  refine ⟨fun pins s σ H D I h => ?_⟩
  rw [exec_Assign_Name_used _ _ _ _ hsw]
  refine wpAny_bind (wpAny_standAt (wpAny_bind ?_))
  show wpAny _ X.A (do let _ ← comprehension (.ListComp elt [⟨tg, iter, ifs, 0⟩] scope pos) scope X.env (firstIterPos [⟨tg, iter, ifs, 0⟩] pos) (newList []) false (eval iter X.env) (some (assign (.Name y py) X.env))) _ _ s
  have h : tLc wi g tt te (own.map (·.2)) σ H (fun x H1 => gName i x σ H1 D.nx) := h
  refine wpAny_bind (thn (lc_coreX (Qf := fun _ s' => SP X pins D .next s') hs0 hf0 tk hc hN I hi ok hg ht he hs h fun L C s' m H' I' q hn f => ?_) fun _ s' hq => wpAny_pure (wpAny_pure hq))
  show wpAny _ _ (assign (.Name y py) X.env (.ref L)) _ _ _
  refine wpAny_assign_Name (store_ok2 (v := V.ref L) I' hN hy (.inl hyl) rfl (fun s2 I2 ⟨a, sb, ha⟩ => ?_) (.inr hyl))
  obtain ⟨f0, f1, f2, f3, f4, f5⟩ := f
  have haC : C ≠ a := by
    rcases ha with z | z
    · rw [z]; exact f1
    · exact fun e => f4 y a z e.symm
  refine ⟨m, hn.sameBut sb haC, fun h3 sb3 => ?_⟩
  exact ⟨_, H', I2.turned (t' := s2.toks) (fun b o hb e => (sb3.2 b hb).trans e) f0 f1 f3 f4 f5, q⟩
end
end L2
namespace EV
open PySem PySem.Spec PyProof.Rows L2
section
variable {X : Cx} {L : Pl} {K : PySem.W.Frag} {B : Bo} {O : Ow} {G H : Hp} {I : Ow → Prop} {pos : Pos}
/-- the turns of a comprehension whose element may raise -/
def lcWX (I : Ow → Prop) (g : DG) (tt : DT) (te : DE) (ρ : Slots) (E : QX) : List D → List D → Ow → (List D → Ow → Prop) → Prop
  | [], acc, O, Q => I O ∧ Q acc O
  | d :: ds, acc, O, Q => I O ∧ g d ρ fun ρ' => tt ρ' O (fun c O1 => bc c (te ρ' O1 (fun y O2 => acc.length < sizeLine ∧ lcWX I g tt te ρ E ds (acc ++ [y]) O2 Q) E) (lcWX I g tt te ρ E ds acc O1 Q)) (fun _ _ => False)
theorem lcWX_mo {g : DG} {tt : DT} {te : DE} (hg : MoG g) (ht : Mo tt) (he : Mo te) {ρ : Slots} {E E' : QX} {Q Q' : List D → Ow → Prop} (h : ∀ d O, Q d O → Q' d O) (hx : ∀ x O, E x O → E' x O) : ∀ {ds acc : List D} {O : Ow}, lcWX I g tt te ρ E ds acc O Q → lcWX I g tt te ρ E' ds acc O Q'
  | [], _, _, z => ⟨z.1, h _ _ z.2⟩
  | d :: ds, acc, _, z => ⟨z.1, hg _ _ _ _ (fun ρ' z1 => ht _ _ _ _ _ _ (fun c _ z2 => by
      cases c with
      | true => exact (he _ _ _ _ _ _ (fun y _ z3 => ⟨z3.1, lcWX_mo hg ht he h hx z3.2⟩) hx z2)
      | false => exact (lcWX_mo hg ht he h hx z2)) (fun _ _ x => x) z1) z.2⟩
abbrev dLcX (mi : DI) (g : DG) (tt : DT) (te : DE) (vs : List Nat) : DE := fun ρ O Q E => mi ρ O (fun x O1 => lcWX x.1 g tt te (wipeD ρ vs) E x.2 [] O1 fun l O2 => Q (.lst l) O2) E
theorem mo_lcX {mi : DI} {g : DG} {tt : DT} {te : DE} {vs : List Nat} (hi : Mo mi) (hg : MoG g) (ht : Mo tt) (he : Mo te) : Mo (dLcX mi g tt te vs) := fun ρ O Q Q' E E' q hx x =>
  hi ρ _ _ _ _ _ (fun _ _ z => lcWX_mo hg ht he (fun _ => q _) hx z) hx x
/-- the gathering of a comprehension, by HandS's reading of it -/
theorem lc_runX {Ew : XK} {Ex : QX} {σ0 : L2.St} {ρ0 : Slots} {g : DG} {tt : DT} {te : DE} {vs is : List Nat} {J : It} {O0 : Ow} {G0 H0 : Hp} {ds : List D} {Q : VK} {P : List D → Ow → Prop} {Dd : Addr} (hg : MoG g) (ht : Mo tt) (he : Mo te)
    (s0 : Step K B O G H O0 G0 H0) (rs : RpS K G σ0 ρ0) (it : ItD K B G0 J (I, ds)) (h : lcWX I g tt te (wipeD ρ0 vs) Ex ds [] O0 P) (hEx : ∀ x O', Ex x O' → kx K B O G H Ew x O') (nD : H0 Dd = none) (hv : ∀ i ∈ is, i ∈ vs)
    (hP : ∀ acc vacc O1 G1 H1, P acc O1 → Step K B O G H O1 G1 H1 → O1 Dd = none → G1 Dd = none → H Dd = none → H1 Dd = some (.lst vacc) → ¬ Hid B Dd → RpL K G1 vacc acc → Q (.ref Dd) H1) :
    ∃ W : Nat → Nat → Hp → Prop, (∃ m, W 0 m (upd H0 Dd (.lst []))) ∧ ∀ i m H, W i m H →
      (J.stop i H ∧ Q (.ref Dd) H) ∨ (J.go i H ∧ ∃ Nx : Hp → Prop, (∀ H', Nx H' → ∃ m', m' < m ∧ W (i + 1) m' H') ∧ ∀ x H', J.yld i H x H' → upG K B is g x (L2.wipe σ0 vs) H' fun σ2 H2 => L2.wipe σ2 vs = L2.wipe σ0 vs ∧ upT K B (fun _ _ _ _ => False) tt σ2 H2 fun b H3 =>
        if b = true then up K B (fun _ => Ew) te σ2 H3 fun y H4 => ∃ acc, H4 Dd = some (.lst acc) ∧ acc.length < sizeLine ∧ Nx (upd H4 Dd (.lst (acc ++ [y]))) else Nx H3) := by
  have nb : ¬ Hid B Dd := s0.good.nhid nD
  have nG : G0 Dd = none := s0.good.freshG nD
  have nO : O0 Dd = none := s0.good.fresh nD
  have upk : ∀ {O1 : Ow} {G1 H1 : Hp} (l : List V), Good K B O1 G1 H1 → G1 Dd = none → O1 Dd = none → (∀ φ, H1 Dd ≠ some (.ext φ)) → Good K B O1 G1 (upd H1 Dd (.lst l)) := fun {O1 G1 H1} l gd n1 n2 n3 => by
    refine ⟨fun a o e => ?_, fun b l T e => ?_, gd.amb, fun p d e => ?_⟩
    · rw [upd_ne (fun z => by rw [z, n1] at e; cases e)]; exact gd.sub a o e
    · refine (gd.box b l T e).step (Sub.refl _) (fun a ha => gd.hidG ⟨b, l, T, e, ha⟩) fun a o ha h => ?_
      rw [upd_ne (fun z => nb (by rw [← z]; exact ⟨b, l, T, e, ha⟩))]
      exact h
    · obtain ⟨a, b, c⟩ := gd.own p d e
      exact ⟨a, b, c.mono (Sub.refl _) fun o h => by rw [upd_ne (fun z => by rw [z, n2] at e; cases e)]; exact h⟩
  by_cases hHD : ∃ o, H Dd = some o
  · -- it was there at first and is no more: so it was one's own, and is dropped
    obtain ⟨o, eo⟩ := hHD
    exfalso
    cases eO : O Dd with
    | none => have := s0.keep _ _ eo nb eO; rw [nD] at this; cases this
    | some d => exact absurd nD (s0.still _ (by rw [eo]; exact Option.some_ne_none _))
  have nH : H Dd = none := by
    cases e : H Dd with
    | none => rfl
    | some o => exact absurd ⟨o, e⟩ hHD
  refine ⟨fun i m H1 => ∃ G1 O1 acc vacc, m = ds.length - i ∧ i ≤ ds.length ∧ Step K B O G H O1 G1 H1 ∧ Sub G0 G1 ∧ G1 Dd = none ∧ O1 Dd = none ∧ H1 Dd = some (.lst vacc) ∧ RpL K G1 vacc acc ∧ lcWX I g tt te (wipeD ρ0 vs) Ex (ds.drop i) acc O1 P, ⟨ds.length, G0, O0, [], [], by simp, Nat.zero_le _, ?_, Sub.refl _, nG, nO, upd_same, .nil, by simpa using h⟩, ?_⟩
  · exact ⟨s0.grow, upk [] s0.good nG nO (fun φ z => by rw [nD] at z; cases z), fun a o e n z => by rw [upd_ne (fun z => by rw [z, nH] at e; cases e)]; exact s0.keep a o e n z, s0.hid, fun a h => upd_still a (s0.still a h)⟩
  · rintro i m H1 ⟨G1, O1, acc, vacc, rfl, hi, st, sb, gD, oD, hD, ra, hl⟩
    rcases Nat.lt_or_ge i ds.length with hlt | hge
    · have ei : ds[i]? = some ds[i] := List.getElem?_eq_getElem hlt
      have ed : ds.drop i = ds[i] :: ds.drop (i + 1) := List.drop_eq_getElem_cons hlt
      rw [ed] at hl
      obtain ⟨hI, hl⟩ := hl
      obtain ⟨go, yl⟩ := (it i O1 G1 H1 st.good sb hI).1 _ ei
      refine .inr ⟨go, fun H2 => ∃ G2 O2 acc vacc, Step K B O G H O2 G2 H2 ∧ Sub G0 G2 ∧ G2 Dd = none ∧ O2 Dd = none ∧ H2 Dd = some (.lst vacc) ∧ RpL K G2 vacc acc ∧ lcWX I g tt te (wipeD ρ0 vs) Ex (ds.drop (i + 1)) acc O2 P, fun H2 ⟨G2, O2, acc2, vacc2, a, b, c, c', d, e, f⟩ => ⟨ds.length - (i + 1), by omega, G2, O2, acc2, vacc2, rfl, by omega, a, b, c, c', d, e, f⟩, fun x H2 y => ?_⟩
      obtain ⟨G2, s2, rx⟩ := yl x H2 y
      have st2 := st.trans s2
      have gD2 : G2 Dd = none := (s2.hid _ _ hD gD oD).1
      have hD2 : H2 Dd = some (.lst vacc) := s2.keep _ _ hD nb oD
      refine ⟨G2, O1, wipeD ρ0 vs, ds[i], s2.good, (rs.step st2).wipe vs, rx, hg _ _ _ _ (fun ρ' z σ2 rs2 o2 => ⟨wipe_off o2 hv, ?_⟩) hl⟩
      refine ⟨G2, O1, ρ', s2.good, rs2, ht _ _ _ _ _ _ (fun c O3 z2 G3 H3 s3 => ?_) (fun _ _ x => x.elim) z⟩
      have st3 := st2.trans s3
      have gD3 := s3.hid _ _ hD2 gD2 oD
      have hD3 : H3 Dd = some (.lst vacc) := s3.keep _ _ hD2 nb oD
      cases c with
      | false => exact iteF ⟨G3, O3, acc, vacc, st3, (sb.trans s2.grow).trans s3.grow, gD3.1, gD3.2, hD3, ra.mono (s2.trans s3).grow, z2⟩
      | true =>
        refine iteT ⟨G3, O3, ρ', s3.good, rs2.step s3, he _ _ _ _ _ _ (fun y O4 z3 vy G4 H4 s4 ry => ?_) (fun x O4 z3 d fs G4 H4 s4 a rf => hEx _ _ z3 d fs G4 H4 (st3.trans s4) a rf) z2⟩
        have st4 := st3.trans s4
        have gD4 := s4.hid _ _ hD3 gD3.1 gD3.2
        have hD4 : H4 Dd = some (.lst vacc) := s4.keep _ _ hD3 nb gD3.2
        have ra4 : RpL K G4 vacc acc := ra.mono ((s2.trans s3).trans s4).grow
        refine ⟨vacc, hD4, by rw [ra4.length]; exact z3.1, G4, O4, acc ++ [y], vacc ++ [vy], ?_, ((sb.trans s2.grow).trans s3.grow).trans s4.grow, gD4.1, gD4.2, upd_same, ra4.append (.cons ry .nil), z3.2⟩
        exact ⟨st4.grow, upk _ s4.good gD4.1 gD4.2 (fun φ z => by rw [hD4] at z; cases z), fun a o e n z => by rw [upd_ne (fun z => by rw [z, nH] at e; cases e)]; exact st4.keep a o e n z, st4.hid, fun a h => upd_still a (st4.still a h)⟩
    · rw [List.drop_eq_nil_of_le hge] at hl
      obtain ⟨hI, hl⟩ := hl
      exact .inl ⟨(it i O1 G1 H1 st.good sb hI).2 (show i = ds.length by omega), hP acc vacc O1 G1 H1 hl st oD gD nH hD nb ra⟩
theorem d_setLcX {i : Nat} {y : Str} {py spos : Pos} {elt tg iter : Expr} {ifs : List Expr} {scope : Scope} {own : List (Str × Nat)} {is : List Nat} {mi : DI} {g : DG} {tt : DT} {te : DE} (hs0 : X.stack = X.env :: X.outer) (hf0 : X.env.frame = some X.env.locals) {Ew : XK} (hW : L.W = fun _ => Ew) (tk : Tk X L) (hc : X.calm = true) (hN : X.N.Nodup) (hy : X.N[i]? = some y) (hyl : X.env.scope.names.lookup y = some .local)
    (hsw : swapsWith (.ListComp elt [⟨tg, iter, ifs, 0⟩] scope pos) (some (.Name y py)) spos.line X.env = pure true) (hi : DPI X L tg iter mi) (ok : BlkOk X.N X.env.scope scope own)
    (hg : ∀ (s : Shared) (H : Hp) (C : Addr) (cl : List (Str × Addr)) (fp : List Addr), DPG (X.blk s H scope (compEnvC scope cl C X.env) fp) L.blk tg is g)
    (ht : ∀ (s : Shared) (H : Hp) (C : Addr) (cl : List (Str × Addr)) (fp : List Addr), DPTs (X.blk s H scope (compEnvC scope cl C X.env) fp) L.blk ifs tt)
    (he : ∀ (s : Shared) (H : Hp) (C : Addr) (cl : List (Str × Addr)) (fp : List Addr) (xe : Value → Shared → Prop), (∀ σ', PassesAt (L2.CX X.prog X.w) (blkE X s H scope (compEnvC scope cl C X.env) fp xe) σ' (L.W σ')) → DPE (blkE X s H scope (compEnvC scope cl C X.env) fp xe) L elt te)
    (hv : is.all (fun i => (own.map (·.2)).contains i) = true) (hs : ∀ x, foldedSetIterable iter X.env x = pure x) :
    DPS X L (.Assign [.Name y py] (.ListComp elt [⟨tg, iter, ifs, 0⟩] scope pos) spos) (dAsg (dLcX mi g tt te (own.map (·.2))) (dgName i)) := by
  have mg := (hg X.s_0 X.H_0 0 [] []).mo
  have mt := (ht X.s_0 X.H_0 0 [] []).mo
  have me := (he X.s_0 X.H_0 0 [] [] (fun _ _ => True) fun _ _ _ _ _ _ _ _ => trivial).mo
  have ml : Mo (dLcX mi g tt te (own.map (·.2))) := mo_lcX hi.mo mg mt me
  refine ⟨mo_asg ml mog_name, ps_imp (ps_setLcX (g := upG X.K L.B is g) (tt := upT X.K L.B (fun _ _ _ _ => False) tt) (E := Ew) (te := up X.K L.B L.W te) hs0 hf0 (tk.imp fun c d σ H h => by rw [hW]; exact h) hc hN hy hyl hsw hi.run ok (fun s H C cl fp => (hg s H C cl fp).run) (fun s H C cl fp => (ht s H C cl fp).run) (fun s H C cl fp xe ps => (he s H C cl fp xe (fun σ' => by rw [hW]; exact ps σ')).run) hs) fun Dn σ H ⟨G, O, ρ, gd, rs, q⟩ => ?_⟩
  have q2 : up X.K L.B L.W (dLcX mi g tt te (own.map (·.2))) σ H (fun x H1 => gName i x σ H1 Dn.nx) := upE ml gd rs q fun d v O' G' H' z s r => z _ G' H' s ((rs.step s).set r)
  obtain ⟨G2, O2, ρ2, gd2, rs2, q2⟩ := q2
  refine ⟨G2, O2, ρ2, gd2, rs2, hi.mo ρ2 _ _ _ _ _ (fun x O1 z J G1 H1 s1 it Dd nD => ?_) (fun _ _ x => x) q2⟩
  rw [hW]
  exact lc_runX mg mt me s1 rs2 it z nD (in_of hv) (hP := fun acc vacc O1 G1 H1 p st a b c d e f => lc_show acc vacc O1 G1 H1 p st a b c d e f) (hEx := fun x O' z => by rw [hW] at z; exact z)
end
end EV
set_option Elab.async false
set_option linter.all false
set_option maxRecDepth 100000
set_option maxHeartbeats 4000000
namespace L2
open PySem PySem.Spec PyProof.Rows
section
variable {X : Cx} {pins : List (Addr × Obj)} {σ : St} {H : Hp} {s : Shared}
theorem Inv.sxe {a : Addr} {pn : List (Addr × Obj)} (I : Inv (L2H.suiteX X a pn) pins σ H s) (xe : Value → Shared → Prop) : Inv { L2H.suiteX X a pn with xe := xe } pins σ H s := by
  obtain ⟨⟨o1, o2, o3, o4, o5, o6, o7, o8, o9, o10, o11, o12, o13, o14, o15, o16, o17, o18⟩, i2, i3, i4, i5, i6, i7, i8, i9, i10, i11⟩ := I
  exact ⟨⟨o1, o2, o3, o4, o5, o6, o7, o8, o9, o10, o11, o12, o13, o14, o15, o16, o17, o18⟩, i2, i3, i4, i5, i6, i7, i8, i9, i10, i11⟩
theorem Inv.sxu {a : Addr} {pn : List (Addr × Obj)} {xe : Value → Shared → Prop} (I : Inv { L2H.suiteX X a pn with xe := xe } pins σ H s) : Inv (L2H.suiteX X a pn) pins σ H s := by
  obtain ⟨⟨o1, o2, o3, o4, o5, o6, o7, o8, o9, o10, o11, o12, o13, o14, o15, o16, o17, o18⟩, i2, i3, i4, i5, i6, i7, i8, i9, i10, i11⟩ := I
  exact ⟨⟨o1, o2, o3, o4, o5, o6, o7, o8, o9, o10, o11, o12, o13, o14, o15, o16, o17, o18⟩, i2, i3, i4, i5, i6, i7, i8, i9, i10, i11⟩
/-- the def's own names are known no more -/
theorem Inv.forget {h' : Heap} {t' : Nat} (I : Inv X pins σ H s) (hs : Heap.SameBut X.env.locals s.heap h') (hn' : ∃ m, h'.Ns X.env.locals m) : Inv X pins (σ.map fun _ => none) H { s with heap := h', toks := t' } := by
  obtain ⟨m, hn'⟩ := hn'
  have neL : ∀ b o, X.s_0.heap.get? b = some o → b ≠ X.env.locals := fun b o e => Nat.ne_of_lt (Nat.lt_of_lt_of_le (Heap.lt_size e) I.ok.above)
  refine ⟨I.ok, I.os, I.bare, ⟨fun b o e n hb hx => ?_, fun b o e n hb hx => ?_, I.base.free, fun b o e hx => ?_, I.base.tups, I.base.frzs, I.base.tbls⟩, ⟨_, hn', fun j y v' e1 e2 e3 => ?_⟩, fun y c e => ?_, I.free, I.freeC, fun p hp => ?_, fun b ob e => ?_, by simpa using I.len⟩
  · exact (hs.2 b (neL b o e)).trans (I.base.keep b o e n hb hx)
  · obtain ⟨sl, e1⟩ := I.base.slot b o e n hb hx
    exact ⟨sl, (hs.2 b (neL b o e)).trans e1⟩
  · obtain ⟨o', e1⟩ := I.base.there b o e hx
    exact ⟨o', (hs.2 b (neL b o e)).trans e1⟩
  · rw [List.getElem?_map] at e2
    cases q : σ[j]? with
    | none => rw [q] at e2; cases e2
    | some _ => rw [q] at e2; cases e2
  · obtain ⟨w', z⟩ := I.cell y c e
    exact ⟨w', z.sameBut hs (I.cne y c e)⟩
  · obtain ⟨e, n, ne, nf, d⟩ := I.pin p hp
    exact ⟨(hs.2 p.1 ne).trans e, n, ne, nf, d⟩
  · refine (I.hok b ob e).stay (fun c w' hc q => (hs.2 c ?_).trans q) (fun _ q => q) fun _ _ q => q
    intro z
    subst z
    rcases hc with hc | hc
    · rw [← hc, I.free] at e; cases e
    · rw [I.free] at hc; cases hc
/-- what an except suite with a name raises: the name goes, it flies on -/
theorem as_out {Ew : XK} {A' : Around} {n : Str} {pos : Pos} {a : Addr} {B : Heap} {sI s' : Shared} {cls : Value} {d : Option Addr} {R : Value → Shared → Prop} {E₂ E₃ : Value → Shared → Prop} (hs0 : X.stack = X.env :: X.outer) (hf : X.env.frame = some X.env.locals) (hfr : A'.frames = some (X.env :: X.outer)) (hl : X.env.kindOf n = some .local) (tk : Takes X (fun cls d _ H => Ew cls d H)) (I : Inv X pins σ H sI)
    (nb : ∀ b o, sI.heap.get? b = some o → b ∉ frs X.stack → B.get? b = some o) (up : sI.heap.UpToSlots s'.heap) (sky : Sky B X.stack a (Zc cls d) X.env.locals s'.heap) (na : H a = none) (os : s'.os = sI.os) (ag : AllBare s'.gens) (w : Ew cls d H) (hR : ∀ e s, X.xe e s → R e s) :
    wpAny (model X.prog X.w) A' (noteFrame (.ref a) X.env) (fun _ s₃' => wpAny (model X.prog X.w) A' (do bindName X.env n .none; unbindBehindTheSuite X.env n pos)
      (fun _ s₄ => wpAny (model X.prog X.w) A' (PySem.passOn "try.except-as" (.ref a) X.env : Sem Flow) (fun _ _ => False) R s₄) E₂ s₃') E₃ s' := by
  rw [hs0] at sky
  have fin : ∀ h1, HandSPX.HeldZ B (X.env :: X.outer) a (Zc cls d) X.env.locals h1 → s'.heap.UpToSlots h1 → wpAny (model X.prog X.w) A' (do bindName X.env n .none; unbindBehindTheSuite X.env n pos)
      (fun _ s₄ => wpAny (model X.prog X.w) A' (PySem.passOn "try.except-as" (.ref a) X.env : Sem Flow) (fun _ _ => False) R s₄) E₂ { s' with heap := h1 } := by
    intro h1 hh1 up1
    have J : Inv X pins σ H { s' with heap := h1 } := I.landed nb hh1.1 (up.trans up1) os ag
    obtain ⟨m, hn, hlk⟩ := id J.loc
    have hn : h1.Ns X.env.locals m := hn
    have hcls : (X.env.scope.kind == .class || (X.env.scope.kind == .module && X.env.locals != X.env.globals)) = false := by rw [I.ok.kind]; rfl
    refine wpAny_nameGoes_keeps hl hn hcls fun h2 v hn2 hsb => ?_
    have hn2 : h2.Ns X.env.locals (fun x => if x = n then v else m x) := hn2
    have hsb : Heap.SameBut X.env.locals h1 h2 := hsb
    obtain ⟨k1, k2, k3, oe, vs, T, oT, ts, he, hz, hd, hv1, hnT, hTe, hT, hdT, hv3⟩ := hh1
    have LF : X.env.locals ∈ frs (X.env :: X.outer) := List.mem_filterMap.mpr ⟨X.env, List.mem_cons_self, hf⟩
    have bL : B.get? X.env.locals = none := (k3.mem LF).1
    obtain ⟨oL, es, ep, hoL, hdL, rL⟩ := id hn
    have aL : a ≠ X.env.locals := fun z => by rw [z, hoL] at he; cases he; rw [hdL] at hd; cases hd
    have TL : T ≠ X.env.locals := fun z => by rw [z, hoL] at hT; cases hT; rw [hdL] at hdT; cases hdT
    have s2 : B.StaysIn h2 := fun b o e => (hsb.2 b fun z => by rw [z, bL] at e; cases e).trans (k1 b o e)
    have k3' : h2.FunFrames B (X.env :: X.outer) := Heap.FunFrames.sameBut hsb hn2 k3
    have hH : HandSPX.HeldZ B (X.env :: X.outer) a (Zc cls d) X.env.locals h2 := ⟨s2, k2, k3', oe, vs, T, oT, ts, (hsb.2 a aL).trans he, hz, hd, hv1, hnT, hTe, (hsb.2 T TL).trans hT, hdT, hv3⟩
    unfold PySem.passOn
    refine wpAny_bind (wpAny_field ((hsb.2 a aL).trans he) hd hv1 ?_)
    rw [if_neg (show ¬ ((Value.ref T == Value.none) = true) from by simp), hf]
    refine wpAny_bind (HandSPX.setFlight_onZ hH fun h3 hh3 up3 => wpAny_throw (hR _ _ (tk _ _ ?_)))
    -- the state without it
    obtain ⟨G0, g1, g2⟩ := restrict h1 fun b => (B.get? b).isSome || decide (b ∈ frs X.stack)
    have gB : ∀ b o, B.get? b = some o → G0.get? b = some o := fun b o e => by
      rw [g1 b (by simp [e])]
      exact k1 b o e
    have gF : ∀ b, b ∈ frs X.stack → G0.get? b = h1.get? b := fun b hb => g1 b (by simp [hb])
    have og : ∀ b o, G0.get? b = some o → h1.get? b = some o ∧ ((B.get? b).isSome = true ∨ b ∈ frs X.stack) := fun b o e => by
      cases q : ((B.get? b).isSome || decide (b ∈ frs X.stack)) with
      | false => rw [g2 b q] at e; cases e
      | true =>
        rw [g1 b q] at e
        exact ⟨e, by simpa [Bool.or_eq_true] using q⟩
    have slot : ∀ b o, sI.heap.get? b = some o → b ∈ frs X.stack → ∃ sl, G0.get? b = some { o with slots := sl } := fun b o e hb => by
      obtain ⟨_, o', e', nf⟩ := I.stack.mem hb
      rw [e] at e'; cases e'
      obtain ⟨sl1, q1⟩ := (up.trans up1) b _ e nf
      exact ⟨sl1, by rw [gF b hb]; exact q1⟩
    have J0 : Inv X pins σ H { sI with heap := G0, gens := s'.gens, drawn := s'.drawn, toks := s'.toks } := by
      refine I.call (ch := []) ⟨fun b o e n hb _ => gB b o (nb b o e hb), fun b o e n hb _ => slot b o e hb, fun b o e n _ => n, fun b o e _ => ?_, fun _ _ e => e, fun _ _ _ e => e, fun b ps e => ⟨#[], by rw [e]; simp⟩⟩ ((I.inGround nb).kept gB) ag (fun _ z => nomatch z)
      by_cases hb : b ∈ frs X.stack
      · obtain ⟨sl, q⟩ := slot b o e hb
        exact ⟨_, q⟩
      · exact ⟨o, gB b o (nb b o e hb)⟩
    have LS : X.env.locals ∈ frs X.stack := by rw [hs0]; exact LF
    have gL : G0.get? X.env.locals = some oL := (gF _ LS).trans hoL
    obtain ⟨oL2, es2, ep2, hoL2, hdL2, rL2⟩ := id hn2
    obtain ⟨sl3, hL3⟩ := up3 _ oL2 hoL2 fun vs q => by rw [hdL2] at q; cases q
    have GS : Heap.SameBut X.env.locals G0 (G0.update X.env.locals fun _ => { oL2 with slots := sl3 }) := Heap.SameBut.update _ _ _
    have GL : (G0.update X.env.locals fun _ => { oL2 with slots := sl3 }).get? X.env.locals = some { oL2 with slots := sl3 } := Heap.get?_update_self _ gL (Heap.get?_some_iff.mp hL3).2
    have J1 := J0.forget (h' := G0.update X.env.locals fun _ => { oL2 with slots := sl3 }) (t' := s'.toks) GS ⟨_, _, es2, ep2, GL, hdL2, rL2⟩
    refine ⟨a, B, _, pins, _, H, cls, d, rfl, J1, fun b o e hb => ?_, fun b o e hnf => ?_, .inr (.inr (by rw [hs0]; exact hh3)), na, os, ag, w⟩
    · have hbL : b ≠ X.env.locals := fun z => hb (by rw [z]; exact LS)
      have e' : G0.get? b = some o := (GS.2 b hbL).symm.trans e
      obtain ⟨e1, h⟩ := og b o e'
      rcases h with h | h
      · obtain ⟨o', q⟩ := Option.isSome_iff_exists.mp h
        have z := k1 b o' q
        rw [e1] at z; cases z
        exact q
      · exact absurd h hb
    · by_cases hbL : b = X.env.locals
      · subst hbL
        have e : (G0.update X.env.locals fun _ => { oL2 with slots := sl3 }).get? X.env.locals = some o := e
        rw [GL] at e
        cases e
        exact ⟨sl3, hL3⟩
      · have e' : G0.get? b = some o := (GS.2 b hbL).symm.trans e
        exact up3 b o ((hsb.2 b hbL).trans (og b o e').1) hnf
  rcases sky with ⟨hB, hn, hl', oe, vs, he, hz, hd, h1⟩ | fl | hh
  · exact HandSPX.look_newZ Zc.steady hfr hl' hf he hB hn hd h1 hz fin
  · exact HandSPX.looks_onZ Zc.steady hfr hf fl fin
  · exact HandSPX.againZ hf hh.2.2.2 (fin s'.heap hh (Heap.UpToSlots.refl _))
/-- what the clause wishes -/
def wAs1 (K : PySem.W.Frag) (c1 : Value) (i : Nat) (ts : Addr → Value → Option Addr → TS) (D : Ends) : WX := fun cls d σ H =>
  PySem.W.exmOne K cls c1 = some true ∧ ∀ a, H a = none → ts a cls d { nx := fun σ' H' => D.nx (σ'.set i none) H', rt := D.rt, bk := fun σ' H' => D.bk (σ'.set i none) H', ct := fun σ' H' => D.ct (σ'.set i none) H' } (σ.set i (some (.ref a))) H
section
variable {X : Cx} {Ew : XK} {x1 n : Str} {c1 : Value} {i : Nat} {body suite : List Stmt} {b₀ : Stmt} {p1 pos pos' : Pos} {tb : WX → TS} {ts : Addr → Value → Option Addr → TS}
theorem ps_try_asR (hs : X.stack = X.env :: X.outer) (hf : X.env.frame = some X.env.locals) (hN : X.N.Nodup) (hi : X.N[i]? = some n) (hln : X.env.kindOf n = some .local) (h1 : Gl X x1 ∧ X.mg x1 = some c1 ∧ (x1 == ("__debug__" : Str)) = false) (hpa : ∀ hd : Option Value, PassesOwnAt (model X.prog X.w) (X.A.mark hd) X.A X.env X.xe) (tk : L2.Takes X (fun cls d _ H => Ew cls d H))
    (hb : ∀ (W : WX) (pn : List (Addr × Obj)) (xe : Value → Shared → Prop), L2N.Takes (X.tr pn xe) W → PassesOwn (model X.prog X.w) X.A X.env xe → PSs (X.tr pn xe) body (tb W))
    (hsu : ∀ (a : Addr) (oe : Obj) (cls : Value) (d : Option Addr) (pn : List (Addr × Obj)) (xe : Value → Shared → Prop), L2N.Zn cls d oe → (∃ vs, oe.data = .fields vs) → X.base.get? a = none → L2.Takes { L2H.suiteX X a ((a, oe) :: pn) with xe := xe } (fun cls d _ H => Ew cls d H) → L2H.HotC { L2H.suiteX X a ((a, oe) :: pn) with xe := xe } → PSs { L2H.suiteX X a ((a, oe) :: pn) with xe := xe } (b₀ :: suite) (ts a cls d)) :
    PS X (.Try body [.ExceptHandler (some (.Name x1 p1)) (some n) (b₀ :: suite) pos'] [] [] pos) (fun D σ H => tb (wAs1 X.K c1 i ts D) D σ H) := by
  refine ⟨fun pins s σ H D I h => ?_⟩
  have ok := I.ok
  have hfr : X.A.frames = some (X.env :: X.outer) := by rw [ok.frames, hs]
  have hloc : Loc X.env.scope n := .inl hln
  refine wpAny_Try_except ?_
  refine wpAny_mono ((hb (wAs1 X.K c1 i ts D) (X.pn ++ pins) (fun e s₁ => wpAny (model X.prog X.w) X.A (noteFrame e X.env) (fun _ s₂ => wpAny (model X.prog X.w) X.A (setFlight e none) (fun _ s₃ =>
    wpAny (model X.prog X.w) X.A (handleBy e X.env [.ExceptHandler (some (.Name x1 p1)) (some n) (b₀ :: suite) pos']) (SP X pins D) X.xe s₃) X.xe s₂) X.xe s₁) (fun u s' xx => ?_) PassesOwn.looking).run [] s σ H D (I.toTry _) h) (fun f s1 hsp => ?_) (fun e s1 he => he)
  · -- the catch
    obtain ⟨a, B, sI, pins', σ', H', cls, d, rfl, J', nb, up, sky, na, os, ag, hb1, hyes⟩ := xx
    have J : Inv X pins σ' H' sI := J'.ofTry ok
    have sky' : Sky B (X.env :: X.outer) a (L2N.Zn cls d) X.env.locals s'.heap := by rw [← hs]; exact sky
    show wpAny (model X.prog X.w) X.A (noteFrame (.ref a) X.env) _ _ _
    refine L2N.Sky.land L2N.Zn.steady hfr hf sky' fun h3' fl3 up3 => ?_
    have J3 : Inv X pins σ' H' { s' with heap := h3' } := J.landed nb fl3.1 (up.trans up3) os ag
    obtain ⟨oe3, vs3, he3, hz3, hd3⟩ := fl3.there
    have notFr : ∀ {h : Heap} {o : Obj} {vs : Array Value}, h.FunFrames B (X.env :: X.outer) → h.get? a = some o → o.data = .fields vs → a ∉ frs (X.env :: X.outer) := fun {h o vs} ff e dd hm => by
      obtain ⟨_, o', e', hnf⟩ := ff.mem hm
      rw [e] at e'; cases e'
      exact hnf _ dd
    have nfr := notFr fl3.2.2.1 he3 hd3
    have nL : a ≠ X.env.locals := fun z => nfr (List.mem_filterMap.mpr ⟨X.env, List.mem_cons_self, by rw [hf, z]⟩)
    have nF : a ∉ X.fs := fun hm => by
      obtain ⟨e, he, q⟩ := List.mem_filterMap.mp hm
      exact nfr (List.mem_filterMap.mpr ⟨e, List.mem_cons_of_mem _ he, q⟩)
    have S3 := J3.suite he3 hd3 na nL nF
    have nbase : X.base.get? a = none := by
      cases q : X.base.get? a with
      | none => rfl
      | some o =>
        have h1 := nb a o (J.bk a o q) (by rw [hs]; exact nfr)
        rw [fl3.2.1] at h1; cases h1
    refine wpAny_handleBy_cons (codeAny_handlers_test ?_) (by intro q; cases q)
    have LT : PySem.W.Looks (model X.prog X.w) h3' (typeOf (.ref a)) cls := fun A Q E s k q => wpAny_typeOf_ref (k _ _ he3) (by rw [hz3.1]; exact q)
    have ld : ∀ {x : Str} {c : Value} {np : Pos} {Q : Value → Shared → Prop} {E : Value → Shared → Prop}, (Gl X x ∧ X.mg x = some c ∧ (x == ("__debug__" : Str)) = false) → Q c { s' with heap := h3' } → wpAny (model X.prog X.w) (X.A.mark (some (.ref a))) (eval (.Name x np) X.env) Q E { s' with heap := h3' } := fun {x c np Q E} hx q =>
      ld_glob (X := X.suite a ((a, oe3) :: (X.pn ++ pins))) S3 hx.1 hx.2.1 q hx.2.2
    have LM := PySem.W.exm_one (M := model X.prog X.w) (J3.kIn) LT hb1
    refine ld h1 (LM.here ?_)
    refine codeAny_handlers_suite_as ?_
    refine HandSPX.lands_againZ fl3 fun h4 fl4 up4 => ?_
    have J4 : Inv X pins σ' H' { s' with heap := h4 } := J.landed nb fl4.1 ((up.trans up3).trans up4) os ag
    obtain ⟨oe4, vs4, he4, hz4, hd4⟩ := fl4.there
    have S4 := J4.suite he4 hd4 na nL nF
    refine store_ok (X := X.suite a ((a, oe4) :: (X.pn ++ pins))) (v := .ref a) S4 hN hi hloc rfl (fun s5 S5 => ?_) (.inr hln)
    have hot : L2H.HotC { L2H.suiteX X a ((a, oe4) :: (X.pn ++ pins)) with xe := fun x s₃ => wpAny (model X.prog X.w) (X.A.mark (some (.ref a))) (noteFrame x X.env) (fun _ s₃' => wpAny (model X.prog X.w) (X.A.mark (some (.ref a))) (do bindName X.env n .none; unbindBehindTheSuite X.env n pos')
        (fun _ s₄ => wpAny (model X.prog X.w) (X.A.mark (some (.ref a))) (PySem.passOn "try.except-as" x X.env : Sem Flow) (fun _ _ => False) (notedBy (model X.prog X.w) (X.A.mark (some (.ref a))) X.env fun x s' => cameBackBy (model X.prog X.w) X.A X.env X.xe x s') s₄)
        (fun y s₄ => wpAny (model X.prog X.w) (X.A.mark (some (.ref a))) (setFlight x none) (fun _ s₅ => (notedBy (model X.prog X.w) (X.A.mark (some (.ref a))) X.env fun x s' => cameBackBy (model X.prog X.w) X.A X.env X.xe x s') y s₅) (notedBy (model X.prog X.w) (X.A.mark (some (.ref a))) X.env fun x s' => cameBackBy (model X.prog X.w) X.A X.env X.xe x s') s₄) s₃') (notedBy (model X.prog X.w) (X.A.mark (some (.ref a))) X.env fun x s' => cameBackBy (model X.prog X.w) X.A X.env X.xe x s') s₃ } := ⟨(a, oe4), ⟨rfl, _, hd4, hz4.2.2 _ hd4⟩, List.mem_cons_self⟩
    refine wpAny_mono ((hsu a oe4 cls d (X.pn ++ pins) _ hz4 ⟨_, hd4⟩ nbase ?tkS hot).run [] s5 _ H' _ ((L2H.suiteX_of S5).sxe _) (hyes a na)) (fun f s6 hsp => ?_) (fun e6 s6 z => ?out)
    case tkS =>
      intro u2 s2 x2
      obtain ⟨a2, B2, sI2, pn2, σ2, H2, cls2, d2, e2, I2, nb2, up2, sky2, na2, os2, ag2, w2⟩ := x2
      subst e2
      exact as_out hs hf hfr hln tk (L2H.unsuiteX (I2.sxu) ok) nb2 up2 sky2 na2 os2 ag2 w2 fun e6 s6 z => hpa (some (.ref a)) e6 s6 z
    case out => exact z
    have end_ : ∀ {σ6 : St} {H6 : Hp} {Q : Shared → Prop} {xe : Value → Shared → Prop}, Inv { L2H.suiteX X a ((a, oe4) :: (X.pn ++ pins)) with xe := xe } [] σ6 H6 s6 → (∀ s7, Inv X pins (σ6.set i none) H6 s7 → Q s7) →
        wpAny (model X.prog X.w) X.A (do bindName X.env n .none; unbindBehindTheSuite X.env n pos') (fun _ s7 => Q s7) X.xe s6 := fun {σ6 H6 Q xe} S6 hq => gone_ok (L2H.unsuiteX (S6.sxu) ok) hN hi hln hq
    cases f with
    | next =>
      obtain ⟨σ6, H6, S6, q6⟩ := hsp
      exact end_ S6 fun s7 J7 => ⟨_, _, J7, q6⟩
    | brk =>
      obtain ⟨σ6, H6, S6, q6⟩ := hsp
      exact end_ S6 fun s7 J7 => ⟨_, _, J7, q6⟩
    | cont =>
      obtain ⟨σ6, H6, S6, q6⟩ := hsp
      exact end_ S6 fun s7 J7 => ⟨_, _, J7, q6⟩
    | ret u =>
      obtain ⟨v6, σ6, H6, S6, r6, q6⟩ := hsp
      exact end_ S6 fun s7 J7 => ⟨_, _, _, J7, r6, q6⟩
  · cases f with
    | next =>
      obtain ⟨σ', H', J', q⟩ := hsp
      exact wpAny_execs_nil ⟨σ', H', J'.ofTry ok, q⟩
    | brk =>
      obtain ⟨σ', H', J', q⟩ := hsp
      exact ⟨σ', H', J'.ofTry ok, q⟩
    | cont =>
      obtain ⟨σ', H', J', q⟩ := hsp
      exact ⟨σ', H', J'.ofTry ok, q⟩
    | ret u =>
      obtain ⟨v, σ', H', J', r, q⟩ := hsp
      exact ⟨v, σ', H', J'.ofTry ok, r, q⟩
end
end
end L2
namespace EV
open PySem PySem.Spec PyProof.Rows L2 PySem.XO LamX
section
variable {X : Cx} {L : Pl}
theorem pe_sxe {a : Addr} {pn : List (Addr × Obj)} {e : Expr} {te : TE} (h : PE (X.suite a pn) e te) (xe : Value → Shared → Prop) : PE { L2H.suiteX X a pn with xe := xe } e te := by
  refine ⟨fun pins s σ H Q I q => ?_⟩
  refine wpAny_mono (h.run pins s σ H Q (show Inv (X.suite a pn) pins σ H s from (I.sxu).wish fun _ _ => False) q) (fun v s' ⟨v', H', I', r, q'⟩ => ⟨v', H', (L2H.suiteX_of I').sxe _, r, q'⟩) fun _ _ z => z.elim
/-- try: body / except C1 as n: raise C2(f + n.fld) from None; the clause takes all that the body raises -/
abbrev dTryAsR (C1 : Addr) (code1 fld : Str) (C2 : Addr) (code2 nm2 : Str) (i j : Nat) (ms : DS) : DS := fun A ρ O => ms { A with ex := fun x ρ' O' => ∃ k f : Int, x = (C1, errD code1 [fld] [.int k]) ∧ i < ρ'.length ∧ ρ'[j]? = some (.sh (.int f)) ∧ A.ex (C2, errD code2 [nm2] [.int (f + k)]) ρ' O' } ρ O
theorem d_tryAsR {x1 x2 f n fld code1 code2 nm2 : Str} {C1 C2 : Addr} {i j nn jj : Nat} {body : List Stmt} {p1 p2 pf pn pa pb pc pk pr pos' pos : Pos} {ms : DS} {Ew : XK} (hs : X.stack = X.env :: X.outer) (hf : X.env.frame = some X.env.locals)
    (hpa : ∀ hd : Option Value, PassesOwnAt (model X.prog X.w) (X.A.mark hd) X.A X.env X.xe) (hW : L.W = fun _ => Ew) (tk : Tk X L) (hN : X.N.Nodup) (hij : i ≠ j) (hi : X.N[i]? = some n) (hln : X.env.kindOf n = some .local) (hvn : (n == ("__debug__" : Str)) = false ∧ (n == ("__classdict__" : Str)) = false) (hj : X.N[j]? = some f) (hv : Vis X.env.scope f) (hvf : (f == ("__debug__" : Str)) = false ∧ (f == ("__classdict__" : Str)) = false)
    (g1 : Gl X x1) (m1 : X.mg x1 = some (.ref C1)) (d1 : (x1 == ("__debug__" : Str)) = false) (e1 : PySem.W.exmOne X.K (.ref C1) (.ref C1) = some true) (xf : XfC X.K C1) (nf : PySem.W.findIn X.K (.ref C1) fld = some none) (hfl : fld ≠ "code")
    (Er : Err X.prog X.w X.K X.mg X.base nn C2 code2 [nm2]) (hr : Room nn X.A) (g2 : Gl X x2) (m2 : X.mg x2 = some (.ref C2)) (d2 : (x2 == ("__debug__" : Str)) = false)
    (hb : ∀ (W : L2.St → XK) (pn : List (Addr × Obj)) (xe : Value → Shared → Prop), TkN (X.tr pn xe) ⟨L.B, W⟩ → PassesOwn (model X.prog X.w) X.A X.env xe → DPSs (X.tr pn xe) ⟨L.B, W⟩ body ms)
    (he : starEach [.BinOp (.Name f pf) .Add (.Attribute (.Name n pn) fld pa) pb] X.env = (false, eval (.BinOp (.Name f pf) .Add (.Attribute (.Name n pn) fld pa) pb) X.env) :: starEach [] X.env) (hpl : (backTo pc (starEach [] X.env)).any (·.1) = false)
    (hat : attributeBase (.Name n pn) fld X.env (eval (.Name n pn) X.env) = eval (.Name n pn) X.env) :
    DPS X L (.Try body [.ExceptHandler (some (.Name x1 p1)) (some n) [.Raise (some (.Call (.Name x2 p2) [.BinOp (.Name f pf) .Add (.Attribute (.Name n pn) fld pa) pb] [] pc)) (some (.Constant .none jj pk)) pr] pos'] [] [] pos) (dTryAsR C1 code1 fld C2 code2 nm2 i j ms) := by
  have mms : MoS ms := (hb (fun _ _ _ _ => False) [] (fun _ _ => False) (fun _ _ ⟨_, _, _, _, _, _, _, _, _, _, _, _, _, _, _, _, w⟩ => w.elim) PassesOwn.never).mo
  have tk0 : L2.Takes X (fun cls d _ H => Ew cls d H) := tk.imp fun c d σ H h => by rw [hW]; exact h
  refine ⟨fun A A' ρ O l z => mms { A with ex := fun x ρ' O' => ∃ k f : Int, x = (C1, errD code1 [fld] [.int k]) ∧ i < ρ'.length ∧ ρ'[j]? = some (.sh (.int f)) ∧ A.ex (C2, errD code2 [nm2] [.int (f + k)]) ρ' O' } { A' with ex := fun x ρ' O' => ∃ k f : Int, x = (C1, errD code1 [fld] [.int k]) ∧ i < ρ'.length ∧ ρ'[j]? = some (.sh (.int f)) ∧ A'.ex (C2, errD code2 [nm2] [.int (f + k)]) ρ' O' } _ _ ⟨l.nx, l.rt, l.bk, l.ct, fun x ρ' O' ⟨k, f, a, il, b, c⟩ => ⟨k, f, a, il, b, l.ex _ _ _ c⟩⟩ z,
    ps_imp (ps_try_asR (Ew := Ew) (tb := fun W => upS X.K ⟨L.B, fun σ cls d H => W cls d σ H⟩ ms) hs hf hN hi hln ⟨g1, m1, d1⟩ hpa tk0 (fun W pn xe tk2 po => (hb (fun σ cls d H => W cls d σ H) pn xe tk2 po).run)
      (fun a oe cls d pn xe hz hfv nba tk2 hot => pss_one (L2H.ps_raiseHN hot tk2 (pmk5_err (X := { L2H.suiteX X a ((a, oe) :: pn) with xe := xe }) Er (roomH_mk hr _) g2 m2 (pa_cons (pe_op op_add (pe_var (i := j) hj hv hvf.1 hvf.2) (pe_sxe (pe_xfE (X := X) hz.zc hfv (pe_var (i := i) hi (.inl hln) hvn.1 hvn.2) hat) xe)) pa_nil) d2 he hpl)))) fun Dn σ H ⟨G, O, ρ, g, rs, z⟩ => ⟨G, O, ρ, g, rs, ?_⟩⟩
  refine mms { dn X.K L O G H Dn with ex := fun x ρ' O' => ∃ k f : Int, x = (C1, errD code1 [fld] [.int k]) ∧ i < ρ'.length ∧ ρ'[j]? = some (.sh (.int f)) ∧ (dn X.K L O G H Dn).ex (C2, errD code2 [nm2] [.int (f + k)]) ρ' O' } _ _ _ ⟨fun _ _ z => z, fun _ _ z => z, fun _ _ z => z, fun _ _ z => z, fun x ρ' O' ⟨k, f, ex, il, ef, z⟩ σ' d fs G' H' s rs' hd rf => ?_⟩ z
  subst ex
  refine ⟨e1, fun a na => ?_⟩
  have hlen : i < σ'.length := by rw [rs'.len]; exact il
  obtain ⟨v1, e1', r1⟩ := rs'.sh j _ ef
  cases r1
  have el : (errD code1 [fld] [.int k]).lookup fld = some (.int k) := by
    unfold errD
    rw [List.lookup_cons, show (fld == ("code" : Str)) = false from beq_eq_false_iff_ne.mpr hfl]
    show (List.lookup fld [(fld, D.int k)]) = _
    rw [List.lookup_cons, show (fld == fld) = true from beq_self_eq_true fld]
  obtain ⟨v, ev, rv⟩ := rf.look el
  cases rv
  refine ⟨.int f, by rw [List.getElem?_set_ne hij]; exact e1', .ref a, List.getElem?_set_self hlen, rfl, C1, d, fs, .int k, rfl, xf, nf, rfl, s.good.sub _ _ hd, ev, f, k, rfl, rfl, rfl, fun d2 nd => ?_⟩
  obtain ⟨s2, r2⟩ := exd_new (code := code2) (names := [nm2]) s.good (.cons (.int (f + k)) .nil : RpL X.K G' [.int (f + k)] [.int (f + k)]) nd
  have := z σ' d2 _ _ _ (s.trans s2) (rs'.step s2) upd_same r2
  rw [hW] at this
  exact this
end
end EV
set_option Elab.async false
set_option linter.all false
set_option maxRecDepth 100000
set_option maxHeartbeats 4000000
set_option pp.maxSteps 1200
namespace LW
open PySem PySem.Spec PyProof.Rows L2 EV PySem.XO PySem.W LamX
local macro_rules | `(tactic| walk_at "fd") => `(tactic| first | assumption | rfl)
local macro_rules | `(tactic| walk_at "ow") => `(tactic| first | assumption | exact oset_self | (rw [oset_ne (by assumption)]; walk_at "ow") | (rw [oset_ne (Ne.symm (by assumption))]; walk_at "ow"))
local macro_rules | `(tactic| walk_at "ix") => `(tactic| first | exact EV.ga0 | exact EV.ga1 | exact EV.ga2 | exact EV.ga3 | exact EV.ga4 | exact EV.ga5 | exact EV.ga6 | exact EV.ga7 | exact EV.ga8 | exact EV.ga9 | exact EV.ga10 | exact EV.ga11 | exact EV.ga12 | exact EV.ga13 | exact EV.ga14 | exact EV.ga15 | assumption | rfl)
local macro_rules | `(tactic| walk_at "sz") => `(tactic| first | exact trivial | (with_reducible assumption) | omega | ((with_reducible refine szR ?_); exact rfl) | ((with_reducible refine szk' ?_); omega) | ((with_reducible refine szl ?_); omega) | exact szlt rfl | rfl | exact ⟨rfl, by assumption⟩ | exact ⟨rfl, rfl⟩ | exact ⟨_, rfl⟩ | ((with_reducible refine szk' ?_); simp only [List.length_cons, List.length_nil, List.length_append, List.length_map]; omega) | (unfold CMul; omega) | (unfold CDiv; omega) | (unfold CPow; exact ⟨by omega, by omega, by omega⟩) | (constructor; · omega; · omega))
local macro_rules | `(tactic| walk_at "val") => `(tactic| first | assumption | exact rfl)
local macro_rules | `(tactic| walk_at "ty") => `(tactic| first | assumption | exact rfl)
local macro_rules | `(tactic| walk_at "bt") => `(tactic| first | exact rfl | assumption)
local macro_rules | `(tactic| walk_at "n") => `(tactic| refine st_norm (by simp only [List.set_cons_succ, List.set_cons_zero]; rfl) ?_)
local macro_rules | `(tactic| walk_at "wh") => `(tactic| with_reducible conv => whnf)
local macro_rules | `(tactic| walk_at "call") => `(tactic| fail)
local macro_rules | `(tactic| walk_at "go1") => `(tactic| first
  | ((with_reducible apply go_var); (· exact rfl))
  | ((with_reducible apply go_varF); (· exact rfl); (· walk_at "ow"))
  | ((with_reducible apply go_set); (· (simp only [wipeD, List.map_cons, List.map_nil, List.set_cons_succ, List.set_cons_zero]; rfl)))
  | ((with_reducible apply go_fld); (· walk_at "fd"))
  | ((with_reducible apply go_fldH); (· walk_at "ow"); (· walk_at "fd"))
  | ((with_reducible apply go_ixT); (· walk_at "ix"))
  | ((with_reducible apply go_ixL); (· walk_at "ix"))
  | ((with_reducible apply go_ixH); (· walk_at "ow"); (· walk_at "ix"))
  | ((with_reducible apply go_bcT); (· walk_at "bt"))
  | ((with_reducible apply go_bcF); (· walk_at "bt"))
  | ((with_reducible apply go_methH); (· walk_at "ow"); (· walk_at "fd"))
  | ((with_reducible apply And.intro); (· walk_at "sz"))
  | ((with_reducible apply go_lm); (· walk_at "ow"))
  | ((with_reducible apply go_lm2); (· walk_at "ow"))
  | ((with_reducible apply go_app); (· walk_at "sz"))
  | ((with_reducible apply go_ext); (· walk_at "sz"))
  | ((with_reducible apply go_setF); (· walk_at "ow"))
  | ((with_reducible apply go_frz); (· walk_at "ow"))
  | ((with_reducible apply go_atK); (· walk_at "val"))
  | ((with_reducible apply go_atS); (· walk_at "val"))
  | ((with_reducible apply go_atI); (· walk_at "val"))
  | ((with_reducible apply go_atHK); (· walk_at "ow"); (· walk_at "val"))
  | ((with_reducible apply go_atHS); (· walk_at "ow"); (· walk_at "val"))
  | ((with_reducible apply go_dputS); (· walk_at "ow"); (· walk_at "sz"))
  | ((with_reducible apply go_dputK); (· walk_at "ow"); (· walk_at "sz"))
  | (with_reducible apply go_eqI)
  | (with_reducible apply go_eqS)
  | (with_reducible apply go_eqB)
  | (with_reducible apply go_neg)
  | (with_reducible apply go_lenL)
  | (with_reducible apply go_lenT)
  | ((with_reducible apply go_lenS); (· walk_at "sz"))
  | ((with_reducible apply go_lenH); (· walk_at "ow"))
  | (with_reducible apply go_tupL)
  | (with_reducible apply go_tupT)
  | ((with_reducible apply go_tupH); (· walk_at "ow"))
  | (with_reducible apply go_listL)
  | (with_reducible apply go_listT)
  | ((with_reducible apply go_listH); (· walk_at "ow"))
  | (with_reducible apply go_all)
  | (with_reducible apply go_any)
  | ((with_reducible apply go_isi); (· exact rfl); (· walk_at "ty"); (· walk_at "val"))
  | ((with_reducible apply go_inS); (· exact rfl))
  | ((with_reducible apply go_inSL); (· exact rfl))
  | ((with_reducible apply go_sortS); (· walk_at "sz"))
  | (with_reducible apply go_own)
  | (with_reducible apply go_pnil)
  | (with_reducible apply go_pcons)
  | ((with_reducible apply go_lcNil); (· exact trivial))
  | (with_reducible apply go_lcCons)
  | (with_reducible apply go_min2)
  | walk_at "call")
local macro_rules | `(tactic| walk_at "go") => `(tactic| (walk_at "wh"; repeat (walk_at "go1"; walk_at "wh")))
local macro_rules | `(tactic| walk_at "all") => `(tactic| (walk_at "wh"; repeat ((first | walk_at "go1" | (with_reducible refine go_st fun _ _ => ?_) | (with_reducible apply goN; (· assumption))); walk_at "wh")))
/-- rows by their form, from a line on -/
def rowsM : List Str → Nat → Sum Nat (List (List D))
  | [], _ => .inr []
  | l :: ls, k => match rowM (spl l) with
    | none => .inl k
    | some r => match rowsM ls (k + 1) with
      | .inl e => .inl e
      | .inr rs => .inr (r :: rs)
def readRP (lines : List Str) : Sum Nat (Nat × List Nat × List (List D)) := match readCM lines with
  | .inl e => .inl e
  | .inr (inp, cs) => if 1 + cs.length = lines.length then .inl (1 + cs.length) else match rowsM (lines.drop (1 + cs.length)) (1 + cs.length) with
    | .inl e => .inl e
    | .inr rs => match chkRows (cs.length : Int) (rs.map D.tup) with
      | some k => .inl (1 + cs.length + k)
      | none => .inr (inp, cs, rs)
theorem cellsM_ok {inp : Nat} : ∀ {ls : List Str} {acc cs : List Nat}, cellsM inp ls acc = .inr cs → acc.length ≤ 300 → (∀ c ∈ acc, c ≤ 10000) → (∀ j, j < inp → j < acc.length → acc[j]? = some 0) → cs.length ≤ 300 ∧ (∀ c ∈ cs, c ≤ 10000) ∧ ∀ j, j < inp → j < cs.length → cs[j]? = some 0
  | [], acc, cs, h, h1, h2, h3 => by cases h; exact ⟨h1, h2, h3⟩
  | l :: ls, acc, cs, h, h1, h2, h3 => by
    unfold cellsM at h
    split at h
    · cases h; exact ⟨h1, h2, h3⟩
    · cases e : cellM (spl l) with
      | none => rw [e] at h; cases h
      | some m =>
        rw [e] at h
        dsimp only at h
        split at h
        · cases h
        · rename_i hn
          simp only [not_or, not_and] at hn
          obtain ⟨n1, n2, n3⟩ := hn
          refine cellsM_ok h (by simp; omega) (fun c hc => ?_) (fun j hj hl => ?_)
          · rcases List.mem_append.mp hc with hc | hc
            · exact h2 c hc
            · rw [List.mem_singleton] at hc; subst hc; omega
          · by_cases hja : j < acc.length
            · rw [List.getElem?_append_left hja]; exact h3 j hj hja
            · rw [List.length_append, List.length_singleton] at hl
              have : j = acc.length := by omega
              subst this
              have := n3 hj
              rw [List.getElem?_append_right (Nat.le_refl _), Nat.sub_self]
              show some m = some 0
              rw [show m = 0 by omega]
theorem readCM_ok {lines : List Str} {inp : Nat} {cs : List Nat} (h : readCM lines = .inr (inp, cs)) : inp ≤ cs.length ∧ cs.length ≤ 300 ∧ (∀ c ∈ cs, c ≤ 10000) ∧ ∀ j, j < inp → cs[j]? = some 0 := by
  unfold readCM at h
  split at h
  · cases h
  · split at h
    · cases h
    · split at h
      · cases h
      · rename_i e
        split at h
        · cases h
        · cases h
          obtain ⟨a, b, c⟩ := cellsM_ok e (by decide) (fun _ z => by cases z) (fun j _ z => by cases z)
          exact ⟨by omega, a, b, fun j hj => c j hj (by omega)⟩
theorem cellsM_le {inp : Nat} : ∀ {ls : List Str} {acc cs : List Nat}, cellsM inp ls acc = .inr cs → cs.length ≤ acc.length + ls.length
  | [], acc, cs, h => by cases h; exact Nat.le_refl _
  | l :: ls, acc, cs, h => by
    unfold cellsM at h
    split at h
    · cases h; exact Nat.le_add_right ..
    · cases e : cellM (spl l) with
      | none => rw [e] at h; cases h
      | some m =>
        rw [e] at h
        dsimp only at h
        split at h
        · cases h
        · have := cellsM_le h
          rw [List.length_append, List.length_singleton] at this
          rw [List.length_cons]; omega
theorem readCM_le {lines : List Str} {inp : Nat} {cs : List Nat} (h : readCM lines = .inr (inp, cs)) (hne : lines ≠ []) : 1 + cs.length ≤ lines.length := by
  unfold readCM at h
  split at h
  · cases h
  · split at h
    · cases h
    · split at h
      · cases h
      · rename_i e
        split at h
        · cases h
        · cases h
          have a := cellsM_le e
          have : 0 < lines.length := List.length_pos_iff.mpr hne
          rw [List.length_tail, List.length_nil] at a
          omega
theorem cells_rd {AA : Str → Addr} {inp : Nat} {cs : List Nat} {rs : List D} (h1 : inp ≤ cs.length) (h2 : cs.length ≤ 300) (h3 : ∀ c ∈ cs, c ≤ 10000) (h4 : ∀ j, j < inp → cs[j]? = some 0) (hr : rs.length ≤ 10000) :
    rdX AA (cs.map natD) rs (.int (inp : Nat)) = (chkRows (cs.length : Int) rs).map fun i => stepX (AA "InvalidStep") i := by
  have ew : wideAt (cs.map natD) inp = none := find_no fun j hj => by
    have := h4 j hj
    rw [getD_of (show (cs.map natD)[j]? = some (.int ((0 : Nat) : Int)) by rw [List.getElem?_map, this]; rfl)]
    rfl
  have hn : ∀ c ∈ cs.map natD, isNum c 0 10000 = true := fun c h => by
    obtain ⟨k, hk, rfl⟩ := List.mem_map.mp h
    have := h3 k hk
    show (decide ((0 : Int) ≤ (k : Nat)) && decide (((k : Nat) : Int) ≤ 10000)) = true
    rw [Bool.and_eq_true, decide_eq_true_eq, decide_eq_true_eq]; omega
  unfold rdX
  rw [if_neg (by rw [List.length_map]; omega), cells_ok hn]
  dsimp only
  rw [if_neg (by
    show ¬ (decide ((0 : Int) ≤ (inp : Nat)) && decide (((inp : Nat) : Int) ≤ ((cs.map natD).length : Nat))) = false
    rw [List.length_map, decide_eq_true (by omega), decide_eq_true (by omega)]; decide), Int.toNat_natCast, ew]
  dsimp only
  rw [if_neg (by omega), List.length_map]
/-- the rows are read line by line; the first wrong one is told -/
theorem lc_rows {C : Addr} {g : DG} {te : DE} {ρ : Slots} {O : Ow} {Q : List D → Ow → Prop} {E : QX} {first : Nat} : ∀ (ls : List Str) (j : Nat) (acc : List D),
    (∀ i l, ls[i]? = some l → ∀ (Qy : QD), (∀ r, rowM (spl l) = some r → Qy (.tup r) O) → (rowM (spl l) = none → E (textX C (first + j + i)) O) → g (.int (0 + ((j + i : Nat) : Int))) ρ fun ρ' => te ρ' O Qy E) → acc.length + ls.length ≤ sizeLine →
    (∀ e, rowsM ls (first + j) = .inl e → E (textX C e) O) → (∀ rs, rowsM ls (first + j) = .inr rs → Q (acc ++ rs.map D.tup) O) →
    lcWX tt1 g dYes te ρ E ((List.range' j ls.length).map fun (k : Nat) => .int (0 + (k : Int))) acc O Q
  | [], j, acc, h, hl, he, hq => ⟨trivial, by have := hq [] rfl; rwa [List.map_nil, List.append_nil] at this⟩
  | l :: ls, j, acc, h, hl, he, hq => by
    have hl2 : acc.length + (ls.length + 1) ≤ sizeLine := hl
    refine ⟨trivial, ?_⟩
    refine h 0 l rfl _ (fun r hr => ⟨by omega, ?_⟩) (fun hn => he _ ?_)
    · refine lc_rows (first := first) ls (j + 1) (acc ++ [.tup r]) (fun i l' hi Qy q1 q2 => ?_) (by rw [List.length_append, List.length_singleton]; omega) (fun e e1 => he e ?_) (fun rs e1 => ?_)
      · have := h (i + 1) l' hi Qy q1 (by rw [show first + j + (i + 1) = first + (j + 1) + i by omega]; exact q2)
        rw [show j + (i + 1) = j + 1 + i by omega] at this
        exact this
      · unfold rowsM
        rw [hr]
        dsimp only
        rw [show first + j + 1 = first + (j + 1) by omega, e1]
      · have := hq (r :: rs) (by
          unfold rowsM
          rw [hr]
          dsimp only
          rw [show first + j + 1 = first + (j + 1) by omega, e1])
        rw [List.append_assoc]
        exact this
    · unfold rowsM
      rw [hn]
      rfl
theorem rowsM_flat : ∀ {ls : List Str} {k : Nat} {rs : List (List D)}, rowsM ls k = .inr rs → (∀ l ∈ ls, l.length ≤ 900) → rs.length = ls.length ∧ ∀ r ∈ rs.map D.tup, Flat1 r
  | [], k, rs, h, _ => by cases h; exact ⟨rfl, fun r hr => by cases hr⟩
  | l :: ls, k, rs, h, hl => by
    unfold rowsM at h
    cases e : rowM (spl l) with
    | none => rw [e] at h; cases h
    | some r =>
      rw [e] at h
      dsimp only at h
      cases e2 : rowsM ls (k + 1) with
      | inl z => rw [e2] at h; cases h
      | inr rs' =>
        rw [e2] at h
        cases h
        obtain ⟨a, b⟩ := rowsM_flat e2 fun l h => hl l (List.mem_cons_of_mem _ h)
        refine ⟨by simp [a], fun x hx => ?_⟩
        rcases List.mem_cons.mp hx with rfl | hx
        · exact row_flat e fun z hz => Nat.le_trans (spl_len hz) (hl l (by simp))
        · exact b x hx
def readGR (AA : Str → Addr) (C : Addr) : DSp := fun ds O Q E => ∃ (text : Str) (lines : List Str), ds = [.str text] ∧ Txt.split text "\n" = lines ∧ text.length ≤ 10000000 ∧ LinesOk lines ∧ lines ≠ [] ∧ lines.length ≤ 900 ∧ (∀ l ∈ lines, ∀ z ∈ spl l, PyData.strOk z = true) ∧
  (∀ k, readRP lines = .inl k → E (textX (AA "InvalidText") k) O) ∧ ∀ inp cs rs, readRP lines = .inr (inp, cs, rs) → Q (.ins C (rdF (cs.map natD) (rs.map D.tup) (.int (inp : Nat)))) O
section
variable {P : Program} {w : World} {K : PySem.W.Frag} {mg : Str → Option Value} {base : Heap}
theorem ok_Reader_readG {f fCl fSt fI C : Addr} {fd fdCl fdSt fdI : FuncData} {AA : Str → Addr} (F : Fun K "read" "Reader.read" s_Reader_read f fd)
    (G_read_cells : FnOk P w K mg base (L2.CX P w) 3 fCl fdCl ["lines"] (spD K (readCS (AA "InvalidText")))) (T_read_cells : Gf K mg "read_cells" fCl fdCl ["lines"])
    (G_read_step : FnOk P w K mg base (L2.CX P w) 3 fSt fdSt ["lines", "at"] (spD K (readSS (AA "InvalidText")))) (T_read_step : Gf K mg "read_step" fSt fdSt ["lines", "at"])
    (MK_Reader : Mk K C fI) (G_Reader_init : FnOk P w K mg base (L2N.CX P w) 4 fI fdI psR (spD K (iniS AA C))) (M_Reader : mg "Reader" = some (.ref C))
    {gA : List Value → List Value → List Value} (KB_Reader_inputs : KBn K fdI psR 3 ["inputs"] gA (fun vs zs => vs ++ zs))
    (m_len : mg "len" = none) (m_min : mg "min" = none) (m_range : mg "range" = none) {t1 : Tok} (M_MOST_ROWS : mg "MOST_ROWS" = some (.int 10000 t1))
    (M_InvalidStep : mg "InvalidStep" = some (.ref (AA "InvalidStep"))) (EX_InvalidStep : PySem.W.exmOne K (.ref (AA "InvalidStep")) (.ref (AA "InvalidStep")) = some true) (XF_InvalidStep : XfC K (AA "InvalidStep")) (NF_InvalidStep_at : PySem.W.findIn K (.ref (AA "InvalidStep")) "at" = some none)
    (E_InvalidText : Err P w K mg base 2 (AA "InvalidText") "InvalidText" ["line"]) (M_InvalidText : mg "InvalidText" = some (.ref (AA "InvalidText"))) :
    FnOk P w K mg base (L2.CX P w) 6 f fd ["text"] (spD K (readGR AA C)) := by
  refine fn_exc F sc_Reader_read (fun ds O Q E h => ?_) (fun cdv A outer s H E hr tk =>
    (d_scons (d_set (i := 1) sc_Reader_read.nd rfl (.inr rfl) (d_split (d_var (i := 0) rfl (.inl rfl) (by decide) (by decide)) d_str rfl rfl rfl) rfl (.inl rfl))
      (d_scons (d_asg (d_call G_read_cells (hr.mono (by decide)) rfl T_read_cells.m T_read_cells.k T_read_cells.b (fun σ => tk_pass tk σ) (d_cons (d_var (i := 1) rfl (.inr (.inl rfl)) (by decide) (by decide)) d_nil rfl) (by decide) rfl rfl) (dg_tup (n := 2) rfl (dgs_cons (dg_name (i := 2) sc_Reader_read.nd rfl (.inl rfl) (.inl rfl)) (dgs_cons (dg_name (i := 3) sc_Reader_read.nd rfl (.inl rfl) (.inl rfl)) dgs_nil rfl) rfl) rfl rfl) rfl rfl rfl)
      (d_scons (d_set (i := 4) sc_Reader_read.nd rfl (.inr rfl) (d_op od_add d_int (d_callB cd_len rfl m_len boot_len (d_cons (d_var (i := 3) rfl (.inl rfl) (by decide) (by decide)) d_nil rfl) (by decide) (by decide) rfl rfl)) rfl (.inl rfl))
      (d_scons (d_ifS (d_tcmp (od_eq hr.units) (d_var (i := 4) rfl (.inr (.inl rfl)) (by decide) (by decide)) (d_callB cd_len rfl m_len boot_len (d_cons (d_var (i := 1) rfl (.inr (.inl rfl)) (by decide) (by decide)) d_nil rfl) (by decide) (by decide) rfl rfl) (nomark _)) (d_sone (d_raise rfl tk E_InvalidText (hr.mono (by decide)) rfl M_InvalidText (d_cons (d_var (i := 4) rfl (.inr (.inl rfl)) (by decide) (by decide)) d_nil rfl) (by decide) rfl rfl)) d_snil)
      (d_scons (d_setLcX (i := 5) rfl rfl rfl tk rfl sc_Reader_read.nd rfl rfl (sw_true rfl rfl rfl (by decide +kernel)) (d_rng1 rfl m_range (d_cons (d_callB (cd_min2 rfl) rfl m_min boot_min (d_cons (d_op od_sub (d_callB cd_len rfl m_len boot_len (d_cons (d_var (i := 1) rfl (.inr (.inl rfl)) (by decide) (by decide)) d_nil rfl) (by decide) (by decide) rfl rfl) (d_var (i := 4) rfl (.inr (.inl rfl)) (by decide) (by decide))) (d_cons (d_globI rfl M_MOST_ROWS (by decide)) d_nil rfl) rfl) (by decide) (by decide) rfl rfl) d_nil rfl) rfl) (blkOk_by (own := [("at", 7)]) (N := N_Reader_read) (sc := defScope s_Reader_read) (by decide +kernel)) (fun _ _ _ _ _ => (dg_name (i := 7) sc_Reader_read.nd rfl (.inl rfl) (.inr rfl))) (fun _ _ _ _ _ => d_ifs0) (fun _ _ _ _ _ xe ps => (d_call G_read_step (hr.mono (by decide)) rfl T_read_step.m T_read_step.k T_read_step.b (fun σ => ps σ) (d_cons (d_var (i := 1) rfl (.inr (.inl rfl)) (by decide) (by decide)) (d_cons (d_op od_add (d_var (i := 4) rfl (.inr (.inl rfl)) (by decide) (by decide)) (d_var (i := 7) rfl (.inl rfl) (by decide) (by decide))) d_nil rfl) rfl) (by decide) rfl rfl)) (by decide +kernel) (fun _ => rfl))
      (d_scons (d_ifS (d_tcmp od_gt (d_op od_sub (d_callB cd_len rfl m_len boot_len (d_cons (d_var (i := 1) rfl (.inr (.inl rfl)) (by decide) (by decide)) d_nil rfl) (by decide) (by decide) rfl rfl) (d_var (i := 4) rfl (.inr (.inl rfl)) (by decide) (by decide))) (d_globI rfl M_MOST_ROWS (by decide)) (nomark _)) (d_sone (d_raise rfl tk E_InvalidText (hr.mono (by decide)) rfl M_InvalidText (d_cons (d_op od_add (d_var (i := 4) rfl (.inr (.inl rfl)) (by decide) (by decide)) (d_globI rfl M_MOST_ROWS (by decide))) d_nil rfl) (by decide) rfl rfl)) d_snil)
      (d_sone (d_tryAsR (i := 6) (j := 4) (code1 := "InvalidStep") rfl rfl (fun hd => L2H.passesAt_of rfl hd) rfl tk sc_Reader_read.nd (by decide) rfl rfl ⟨by decide, by decide⟩ rfl (.inr (.inl rfl)) ⟨by decide, by decide⟩ rfl M_InvalidStep (by decide) EX_InvalidStep XF_InvalidStep NF_InvalidStep_at (by decide) E_InvalidText (hr.mono (by decide)) rfl M_InvalidText (by decide) (fun W pn xe tkN po => (d_sone (d_ret (d_makeGS MK_Reader G_Reader_init (hr.mono (by decide)) rfl M_Reader KB_Reader_inputs GD_Reader_inputs (fun σ => tkN_pass tkN σ) (d_cons (d_var (i := 3) rfl (.inl rfl) (by decide) (by decide)) (d_cons (d_var (i := 5) rfl (.inl rfl) (by decide) (by decide)) d_nil rfl) rfl) (d_kcons (d_var (i := 2) rfl (.inl rfl) (by decide) (by decide)) d_knil) rfl rfl (by decide) rfl rfl)))) rfl rfl rfl))))))))) (fun ds O Q E h => ?_)
  · obtain ⟨_, _, rfl, _⟩ := h; rfl
  · obtain ⟨text, lines, rfl, hsp, htl, hlo, hne, hll, hok, hx, hq⟩ := h
    rw [show startD N_Reader_read [.str text] = [.sh (.str text), .un, .un, .un, .un, .un, .un, .un] from rfl]
    walk_at "go"
    refine go_split (by decide +kernel) (Nat.le_trans (Nat.add_le_add_right htl 2) (szR rfl)) ?_
    walk_at "go"
    rw [show Txt.split text (Str.ofString "\n") = lines from hsp]
    unfold readRP at hx hq
    refine spM.of ⟨lines, rfl, hne, hlo, fun i cs hcm => ?_, fun e hcm => hx e (by rw [hcm])⟩
    rw [hcm] at hx hq
    dsimp only at hx hq
    obtain ⟨c1, c2, c3, c4⟩ := readCM_ok hcm
    walk_at "go"
    have lc1 : (cs.map natD).length = cs.length := List.length_map ..
    have ll1 : (lines.map D.str).length = lines.length := List.length_map ..
    show bc (decide ((1 : Int) + ((cs.map natD).length : Nat) = ((lines.map D.str).length : Nat))) _ _
    rw [lc1, ll1]
    by_cases hfl : 1 + cs.length = lines.length
    · rw [if_pos hfl] at hx
      rw [decide_eq_true (by omega)]
      walk_at "go"
      have := hx _ rfl
      rw [show (1 : Int) + (cs.length : Nat) = ((1 + cs.length : Nat) : Int) by omega]
      exact this
    rw [if_neg hfl] at hx hq
    rw [decide_eq_false (by omega)]
    walk_at "go"
    have hcl : 1 + cs.length ≤ lines.length := readCM_le hcm hne
    have en : (if (10000 : Int) < (lines.length : Nat) - (1 + (cs.length : Int)) then (10000 : Int) else (lines.length : Nat) - (1 + (cs.length : Int))).toNat = (lines.drop (1 + cs.length)).length := by
      rw [if_neg (by omega), List.length_drop]; omega
    rw [ll1, en]
    change lcWX tt1 _ _ _ _ _ (rngD 0 (lines.drop (1 + cs.length)).length) [] O _
    unfold rngD
    rw [List.range_eq_range']
    refine lc_rows (C := AA "InvalidText") (first := 1 + cs.length) (lines.drop (1 + cs.length)) 0 [] (fun j l hj Qy q1 q2 => ?_) (szk' (by simp only [List.length_nil, List.length_drop]; omega)) (fun e he => hx e (by rw [show 1 + cs.length + 0 = 1 + cs.length from rfl] at he; rw [he])) (fun rs hrs => ?_)
    · rw [List.getElem?_drop] at hj
      walk_at "go"
      refine spM.of ⟨lines, 1 + cs.length + j, l, ?_, hj, hlo.2 l (List.mem_of_getElem? hj), hok l (List.mem_of_getElem? hj), q1, fun h => ?_⟩
      · rw [show (1 : Int) + (cs.length : Nat) + (0 + ((0 + j : Nat) : Int)) = ((1 + cs.length + j : Nat) : Int) by omega]
      · exact q2 h
    rw [show 1 + cs.length + 0 = 1 + cs.length from rfl] at hrs
    rw [hrs] at hx hq
    dsimp only at hx hq
    obtain ⟨r1, r2⟩ := rowsM_flat hrs fun l h => hlo.2 l (List.mem_of_mem_drop h)
    rw [List.length_drop] at r1
    rw [List.nil_append]
    walk_at "go"
    show bc (decide ((10000 : Int) < ((lines.map D.str).length : Nat) - (1 + (cs.length : Int)))) _ _
    rw [ll1, decide_eq_false (by omega)]
    walk_at "go"
    have hrd := cells_rd (AA := AA) (rs := rs.map D.tup) c1 c2 c3 c4 (by rw [List.length_map]; omega)
    refine mkG_ini (.inl rfl) (.inl rfl) (by rw [lc1]; exact szk' (by omega)) (by rw [List.length_map]; exact szl (by omega)) (fun c hc => ?_) rfl r2 (fun hn => ?_) fun x h => ?_
    · obtain ⟨n, _, rfl⟩ := List.mem_map.mp hc
      rfl
    · rw [hrd] at hn
      cases ek : chkRows (cs.length : Int) (rs.map D.tup) with
      | some k => rw [ek] at hn; cases hn
      | none =>
        rw [ek] at hq
        exact hq _ _ _ rfl
    · rw [hrd] at h
      cases ek : chkRows (cs.length : Int) (rs.map D.tup) with
      | none => rw [ek] at h; cases h
      | some k =>
        rw [ek] at h hx
        cases h
        refine ⟨(k : Int), ((1 + cs.length : Nat) : Int), rfl, by show 6 < 8; decide, rfl, ?_⟩
        rw [show ((1 + cs.length : Nat) : Int) + (k : Int) = ((1 + cs.length + k : Nat) : Int) by omega]
        exact hx _ rfl
end
end LW
set_option Elab.async false
set_option linter.all false
set_option maxRecDepth 100000
set_option maxHeartbeats 4000000
set_option pp.maxSteps 400
namespace LW
open PySem PySem.Spec PyProof.Rows L2 EV PySem.XO PySem.W LamX
local macro_rules | `(tactic| walk_at "fd") => `(tactic| first | assumption | rfl)
local macro_rules | `(tactic| walk_at "ow") => `(tactic| first | assumption | exact oset_self | (rw [oset_ne (by assumption)]; walk_at "ow") | (rw [oset_ne (Ne.symm (by assumption))]; walk_at "ow"))
local macro_rules | `(tactic| walk_at "ix") => `(tactic| first | exact EV.ga0 | exact EV.ga1 | exact EV.ga2 | exact EV.ga3 | exact EV.ga4 | exact EV.ga5 | exact EV.ga6 | exact EV.ga7 | exact EV.ga8 | exact EV.ga9 | exact EV.ga10 | exact EV.ga11 | exact EV.ga12 | exact EV.ga13 | exact EV.ga14 | exact EV.ga15 | assumption | rfl)
local macro_rules | `(tactic| walk_at "sz") => `(tactic| first | exact trivial | (with_reducible assumption) | omega | ((with_reducible refine szR ?_); exact rfl) | ((with_reducible refine szk' ?_); omega) | ((with_reducible refine szl ?_); omega) | exact szlt rfl | rfl | exact ⟨rfl, by assumption⟩ | exact ⟨rfl, rfl⟩ | exact ⟨_, rfl⟩ | ((with_reducible refine szk' ?_); simp only [List.length_cons, List.length_nil, List.length_append, List.length_map]; omega) | (unfold CMul; omega) | (unfold CDiv; omega) | (unfold CPow; exact ⟨by omega, by omega, by omega⟩) | (constructor; · omega; · omega))
local macro_rules | `(tactic| walk_at "val") => `(tactic| first | assumption | exact rfl)
local macro_rules | `(tactic| walk_at "ty") => `(tactic| first | assumption | exact rfl)
local macro_rules | `(tactic| walk_at "bt") => `(tactic| first | exact rfl | assumption)
local macro_rules | `(tactic| walk_at "n") => `(tactic| refine st_norm (by simp only [List.set_cons_succ, List.set_cons_zero]; rfl) ?_)
local macro_rules | `(tactic| walk_at "wh") => `(tactic| with_reducible conv => whnf)
local macro_rules | `(tactic| walk_at "call") => `(tactic| fail)
local macro_rules | `(tactic| walk_at "go1") => `(tactic| first
  | ((with_reducible apply go_var); (· exact rfl))
  | ((with_reducible apply go_varF); (· exact rfl); (· walk_at "ow"))
  | ((with_reducible apply go_set); (· (simp only [wipeD, List.map_cons, List.map_nil, List.set_cons_succ, List.set_cons_zero]; rfl)))
  | ((with_reducible apply go_fld); (· walk_at "fd"))
  | ((with_reducible apply go_fldH); (· walk_at "ow"); (· walk_at "fd"))
  | ((with_reducible apply go_ixT); (· walk_at "ix"))
  | ((with_reducible apply go_ixL); (· walk_at "ix"))
  | ((with_reducible apply go_ixH); (· walk_at "ow"); (· walk_at "ix"))
  | ((with_reducible apply go_bcT); (· walk_at "bt"))
  | ((with_reducible apply go_bcF); (· walk_at "bt"))
  | ((with_reducible apply go_methH); (· walk_at "ow"); (· walk_at "fd"))
  | ((with_reducible apply And.intro); (· walk_at "sz"))
  | ((with_reducible apply go_lm); (· walk_at "ow"))
  | ((with_reducible apply go_lm2); (· walk_at "ow"))
  | ((with_reducible apply go_app); (· walk_at "sz"))
  | ((with_reducible apply go_ext); (· walk_at "sz"))
  | ((with_reducible apply go_setF); (· walk_at "ow"))
  | ((with_reducible apply go_frz); (· walk_at "ow"))
  | ((with_reducible apply go_atK); (· walk_at "val"))
  | ((with_reducible apply go_atS); (· walk_at "val"))
  | ((with_reducible apply go_atI); (· walk_at "val"))
  | ((with_reducible apply go_atHK); (· walk_at "ow"); (· walk_at "val"))
  | ((with_reducible apply go_atHS); (· walk_at "ow"); (· walk_at "val"))
  | ((with_reducible apply go_dputS); (· walk_at "ow"); (· walk_at "sz"))
  | ((with_reducible apply go_dputK); (· walk_at "ow"); (· walk_at "sz"))
  | (with_reducible apply go_eqI)
  | (with_reducible apply go_eqS)
  | (with_reducible apply go_eqB)
  | (with_reducible apply go_neg)
  | (with_reducible apply go_lenL)
  | (with_reducible apply go_lenT)
  | ((with_reducible apply go_lenS); (· walk_at "sz"))
  | ((with_reducible apply go_lenH); (· walk_at "ow"))
  | (with_reducible apply go_tupL)
  | (with_reducible apply go_tupT)
  | ((with_reducible apply go_tupH); (· walk_at "ow"))
  | (with_reducible apply go_listL)
  | (with_reducible apply go_listT)
  | ((with_reducible apply go_listH); (· walk_at "ow"))
  | (with_reducible apply go_all)
  | (with_reducible apply go_any)
  | ((with_reducible apply go_isi); (· exact rfl); (· walk_at "ty"); (· walk_at "val"))
  | ((with_reducible apply go_inS); (· exact rfl))
  | ((with_reducible apply go_inSL); (· exact rfl))
  | ((with_reducible apply go_sortS); (· walk_at "sz"))
  | (with_reducible apply go_own)
  | (with_reducible apply go_pnil)
  | (with_reducible apply go_pcons)
  | ((with_reducible apply go_lcNil); (· exact trivial))
  | (with_reducible apply go_lcCons)
  | (with_reducible apply go_min2)
  | walk_at "call")
local macro_rules | `(tactic| walk_at "go") => `(tactic| (walk_at "wh"; repeat (walk_at "go1"; walk_at "wh")))
local macro_rules | `(tactic| walk_at "all") => `(tactic| (walk_at "wh"; repeat ((first | walk_at "go1" | (with_reducible refine go_st fun _ _ => ?_) | (with_reducible apply goN; (· assumption))); walk_at "wh")))
theorem app_assoc3 (a b c : Str) : (a ++ b) ++ c = a ++ (b ++ c) := by
  cases a; cases b; cases c
  show Str.mk _ = Str.mk _
  congr 1
  exact Array.append_assoc
theorem join_one {sep a : Str} : Txt.join sep [a] = a := TL.join_eq sep [a]
theorem join_more {sep a b : Str} {r : List Str} : Txt.join sep (a :: b :: r) = (a ++ sep) ++ Txt.join sep (b :: r) := by
  rw [TL.join_eq, TL.join_eq]; rfl
theorem call_pull {n : Int} {O : Ow} {Q : QD} {E : QX} (h0 : 0 < n) (h1 : n < 1073741824) (h : ∀ k, 0 ≤ k → k < n → Q (.int k) O) : spM pullS [.int n] O Q E := spM.of ⟨n, rfl, h0, h1, h⟩
theorem call_of {xs : List D} {O : Ow} {Q : QD} {E : QX} (h0 : 0 < xs.length) (h1 : xs.length < 1000000) (h : ∀ y ∈ xs, Q y O) : spM ofS [.lst xs] O Q E := spM.of ⟨.lst xs, rfl, h0, h1, h⟩
def BadW (w : Str) : Prop := w = "" ∨ w = "Q" ∨ w = "00"
structure Bent (l : Str) (ws : List Str) : Prop where
  e : l = Txt.join " " ws
  ne : ws ≠ []
  sp : ∀ y ∈ ws, Nbw y
  few : ws.length ≤ 8
theorem Bent.spl {l : Str} {ws : List Str} (h : Bent l ws) : spl l = ws := by
  rw [h.e]; exact join_split sep_sp (by decide) h.ne fun y hy => (h.sp y hy).1
theorem Bent.nl {l : Str} {ws : List Str} (h : Bent l ws) : 10 ∉ l.cps.toList := fun hm => by
  rw [h.e, TL.join_eq] at hm
  rcases mem_join hm with h' | ⟨y, hy, h'⟩
  · rw [sep_sp] at h'; simp at h'
  · exact (h.sp y hy).2.1 h'
theorem Bent.len {l : Str} {ws : List Str} (h : Bent l ws) : l.length ≤ 168 := by
  have := join_len (sep := " ") (by decide +kernel) (xs := ws) (k := 20) fun x hx => (h.sp x hx).2.2.1
  rw [← h.e] at this
  have h2 : ws.length * 21 ≤ 8 * 21 := Nat.mul_le_mul_right 21 h.few
  omega
def BentQ (l : Str) : Prop := ∃ ws, Bent l ws ∧ ∃ w ∈ ws, BadW w
theorem str_nil (a : Str) : a ++ ("" : Str) = a := TL.ext_tl (by
  show co (a ++ ("" : Str)) = co a
  rw [co_app, show co ("" : Str) = [] by decide +kernel, List.append_nil])
theorem nil_str (a : Str) : ("" : Str) ++ a = a := TL.ext_tl (by
  show co (("" : Str) ++ a) = co a
  rw [co_app, show co ("" : Str) = [] by decide +kernel, List.nil_append])
theorem join_snoc {sep x : Str} : ∀ {ws : List Str}, ws ≠ [] → Txt.join sep (ws ++ [x]) = (Txt.join sep ws ++ sep) ++ x
  | [a], _ => by
    show Txt.join sep [a, x] = _
    rw [join_more, join_one, join_one]
  | a :: b :: r, _ => by
    show Txt.join sep (a :: b :: (r ++ [x])) = _
    rw [join_more, join_more, show b :: (r ++ [x]) = (b :: r) ++ [x] from rfl, join_snoc (List.cons_ne_nil _ _)]
    simp only [app_assoc3]
theorem lit_sp : ∀ z ∈ (["", "Q", "00"] : List Str), Nbw z := by
  have h : ∀ z ∈ (["", "Q", "00"] : List Str), 32 ∉ z.cps.toList ∧ 10 ∉ z.cps.toList ∧ z.length ≤ 20 ∧ PyData.strOk z = true := by decide +kernel
  exact h
theorem bad_sp {w : Str} (h : BadW w) : Nbw w := by
  rcases h with rfl | rfl | rfl <;> exact lit_sp _ (by simp)
theorem bent_put {ws xs : List Str} {b : Str} (hs : ∀ y ∈ ws, Nbw y) (hs2 : ∀ y ∈ xs, Nbw y) (hb : BadW b) (hl : ws.length + xs.length ≤ 7) : BentQ (Txt.join " " (ws ++ [b] ++ xs)) :=
  ⟨ws ++ [b] ++ xs, ⟨rfl, by simp, fun y hy => by
    simp only [List.mem_append, List.mem_cons, List.not_mem_nil, or_false] at hy
    rcases hy with (h | rfl) | h
    · exact hs y h
    · exact bad_sp hb
    · exact hs2 y h, by simp only [List.length_append, List.length_cons, List.length_nil]; omega⟩, b, by simp, hb⟩
theorem bent_sp {l : Str} {ws : List Str} (h : Bent l ws) (hl : ws.length ≤ 6) : BentQ (l ++ " ") := by
  have := bent_put (ws := ws) (xs := []) h.sp (fun y h => absurd h List.not_mem_nil) (.inl rfl) (by simpa using by omega)
  rw [List.append_nil, join_snoc h.ne, ← h.e, str_nil] at this
  exact this
theorem bent_ps {l : Str} {ws : List Str} (h : Bent l ws) (hl : ws.length ≤ 6) : BentQ (" " ++ l) := by
  have := bent_put (ws := []) (xs := ws) (fun y h => absurd h List.not_mem_nil) h.sp (.inl rfl) (by simpa using by omega)
  obtain ⟨a, r, rfl⟩ : ∃ a r, ws = a :: r := by
    cases e : ws with
    | nil => exact absurd e h.ne
    | cons a r => exact ⟨a, r, rfl⟩
  rw [List.nil_append, show [("" : Str)] ++ a :: r = ("" : Str) :: a :: r from rfl, join_more, ← h.e, nil_str] at this
  exact this
theorem bent_nil : BentQ "" := by
  have := bent_put (ws := []) (xs := []) (b := "") (fun y h => absurd h List.not_mem_nil) (fun y h => absurd h List.not_mem_nil) (.inl rfl) (by decide)
  rw [List.nil_append, List.append_nil, join_one] at this
  exact this
theorem bent_q {l : Str} {ws : List Str} (h : Bent l ws) (hl : ws.length ≤ 6) : BentQ (l ++ " Q") := by
  have := bent_put (ws := ws) (xs := []) h.sp (fun y h => absurd h List.not_mem_nil) (.inr (.inl rfl)) (by simpa using by omega)
  rw [List.append_nil, join_snoc h.ne, ← h.e, app_assoc3, show ((" " : Str) ++ "Q") = " Q" by decide +kernel] at this
  exact this
abbrev s_spoilt : Stmt := topS 42
abbrev N_spoilt : List Str := ["_law_box_here", "_law_line", "_law_words_here", "_law_at"]
theorem sc_spoilt : FnScope N_spoilt ["_law_box_here", "_law_line"] (defScope s_spoilt) := ⟨rfl, rfl, rfl, by decide +kernel, rfl, by decide +kernel, by decide +kernel⟩
def spoiltS : DSp := fun ds O Q _ => ∃ (l : Str) (ws : List Str), ds = [.str l] ∧ Bent l ws ∧ ws.length ≤ 5 ∧ ∀ l', BentQ l' → Q (.str l') O
theorem cut_toS {ss : List Str} {k : Int} (h0 : 0 ≤ k) : EV.cutD (ss.map D.str) none (some k) = (ss.take k.toNat).map D.str := by
  have e1 : k = ((k.toNat : Nat) : Int) := (Int.toNat_of_nonneg h0).symm
  generalize k.toNat = j at e1 ⊢
  subst e1
  unfold EV.cutD
  rw [HT.sIx_none, HT.sIx_nat, List.drop_zero, Nat.sub_zero, ← List.map_take]
  congr 1
  rw [List.length_map, List.take_eq_take_iff]
  omega
theorem cut_fromS {ss : List Str} {k : Int} (h0 : 0 ≤ k) : EV.cutD (ss.map D.str) (some k) none = (ss.drop k.toNat).map D.str := by
  have e1 : k = ((k.toNat : Nat) : Int) := (Int.toNat_of_nonneg h0).symm
  generalize k.toNat = j at e1 ⊢
  subst e1
  unfold EV.cutD
  rw [HT.sIx_none, HT.sIx_nat, List.length_map, ← List.map_drop]
  by_cases h : j ≤ ss.length
  · rw [show min j ss.length = j by omega, ← List.map_take]
    congr 1
    rw [List.take_of_length_le (by rw [List.length_drop]; exact Nat.le_refl _)]
  · rw [show min j ss.length = ss.length by omega, List.drop_length, List.drop_eq_nil_of_le (show ss.length ≤ j by omega)]; simp
theorem got_text {K : PySem.W.Frag} {R : D → Prop} {k : Nat} (q : R (.tup [.str "InvalidText", .int (k : Nat)])) : gotE K (textX (He.ga K "InvalidText") k) R := ⟨"InvalidText", .int (k : Nat), by decide +kernel, rfl, by rfl, by rfl, rfl, q⟩
section
variable {P : Program} {w : World} {K : PySem.W.Frag} {mg : Str → Option Value} {base : Heap}
theorem ok_spoilt {f fP fO : Addr} {fd fdP fdO : FuncData} (F : Fun K "_law_spoilt" "_law_spoilt" s_spoilt f fd)
    (G_pull : FnOk P w K mg base CX0 1 fP fdP ["_law_box_here", "_law_many"] (spB K pullS)) (T_pull : Gf K mg "_law_pull" fP fdP ["_law_box_here", "_law_many"])
    (G_of : FnOk P w K mg base CX0 2 fO fdO ["_law_box_here", "_law_some"] (spB K ofS)) (T_of : Gf K mg "_law_of" fO fdO ["_law_box_here", "_law_some"])
    (m_len : mg "len" = none) :
    FnOk P w K mg base CX0 4 f fd ["_law_box_here", "_law_line"] (spB K spoiltS) := by
  refine fn_box F sc_spoilt (fun ds O Q E h => ?_) (fun cdv A outer s H E b l T hr =>
    (d_scons (d_set (i := 2) sc_spoilt.nd rfl (.inl rfl) (d_split (d_var (i := 1) rfl (.inl rfl) (by decide) (by decide)) d_str rfl rfl rfl) rfl (.inl rfl))
      (d_scons (d_set (i := 3) sc_spoilt.nd rfl (.inl rfl) (d_callX G_pull rfl (hr.mono (by decide)) rfl T_pull.m T_pull.k T_pull.b (fun _ => pass0A) (d_cons (d_var (i := 0) rfl (.inl rfl) (by decide) (by decide)) (d_cons (d_callB cd_len rfl m_len boot_len (d_cons (d_var (i := 2) rfl (.inl rfl) (by decide) (by decide)) d_nil rfl) (by decide) (by decide) rfl rfl) d_nil rfl) rfl) (by decide) rfl rfl) rfl (.inl rfl))
      (d_sone (d_ret (d_callX G_of rfl (hr.mono (by decide)) rfl T_of.m T_of.k T_of.b (fun _ => pass0A) (d_cons (d_var (i := 0) rfl (.inl rfl) (by decide) (by decide)) (d_cons (d_lst (d_cons (d_op od_add (d_var (i := 1) rfl (.inl rfl) (by decide) (by decide)) d_str) (d_cons (d_op od_add d_str (d_var (i := 1) rfl (.inl rfl) (by decide) (by decide))) (d_cons d_str (d_cons (d_op od_add (d_var (i := 1) rfl (.inl rfl) (by decide) (by decide)) d_str) (d_cons (d_join d_str (d_op od_add (d_op od_add (d_sl (d_var (i := 2) rfl (.inl rfl) (by decide) (by decide)) d_nopart (d_part (d_var (i := 3) rfl (.inl rfl) (by decide) (by decide)))) (d_lst (d_cons d_str d_nil rfl))) (d_sl (d_var (i := 2) rfl (.inl rfl) (by decide) (by decide)) (d_part (d_op od_add (d_var (i := 3) rfl (.inl rfl) (by decide) (by decide)) d_int)) d_nopart)) rfl rfl rfl) (d_cons (d_join d_str (d_op od_add (d_op od_add (d_sl (d_var (i := 2) rfl (.inl rfl) (by decide) (by decide)) d_nopart (d_part (d_var (i := 3) rfl (.inl rfl) (by decide) (by decide)))) (d_lst (d_cons d_str d_nil rfl))) (d_sl (d_var (i := 2) rfl (.inl rfl) (by decide) (by decide)) (d_part (d_var (i := 3) rfl (.inl rfl) (by decide) (by decide))) d_nopart)) rfl rfl rfl) (d_cons (d_join d_str (d_op od_add (d_op od_add (d_sl (d_var (i := 2) rfl (.inl rfl) (by decide) (by decide)) d_nopart (d_part (d_var (i := 3) rfl (.inl rfl) (by decide) (by decide)))) (d_lst (d_cons d_str d_nil rfl))) (d_sl (d_var (i := 2) rfl (.inl rfl) (by decide) (by decide)) (d_part (d_op od_add (d_var (i := 3) rfl (.inl rfl) (by decide) (by decide)) d_int)) d_nopart)) rfl rfl rfl) d_nil rfl) rfl) rfl) rfl) rfl) rfl) rfl)) d_nil rfl) rfl) (by decide) rfl rfl)))))) (fun b ds O Q E h => ?_) (fun ds O Q E h => h)
  · obtain ⟨l, ws, rfl, _⟩ := h; rfl
  · obtain ⟨l, ws, rfl, hb, hws, q⟩ := h
    rw [show startD N_spoilt [.opq (.ref b), .str l] = [.sh (.opq (.ref b)), .sh (.str l), .un, .un] from rfl]
    have hll := hb.len
    have hsp := hb.spl
    have hne : 0 < ws.length := List.length_pos_iff.mpr hb.ne
    refine go_st fun N hN => ?_
    walk_at "go"
    refine go_split (by decide +kernel) (szk' (by omega)) ?_
    rw [show Txt.split l (Str.ofString " ") = ws from hsp]
    walk_at "go"
    subst hN
    refine go_st fun N hN => ?_
    walk_at "go"
    refine call_pull (by rw [List.length_map]; omega) (by rw [List.length_map]; omega) fun k k0 k1 => ?_
    rw [List.length_map] at k1
    walk_at "go"
    subst hN
    have wsl : ∀ y ∈ ws, y.length ≤ 20 := fun y hy => (hb.sp y hy).2.2.1
    have c1 : (" " : Str).length = 1 := by decide +kernel
    have c2 : (" Q" : Str).length = 2 := by decide +kernel
    have jn : ∀ {xs : List Str} {R : D → Prop}, (∀ y ∈ xs, y.length ≤ 20) → xs.length ≤ 8 → R (.str (Txt.join " " xs)) → joinD " " (.lst (xs.map D.str)) R := fun {xs R} h1 h2 h3 => by
      refine go_joinS ?_ (by decide +kernel) h3
      have := len_sum xs fun y hy => Nat.le_trans (h1 y hy) (by decide)
      omega
    have jsp : ∀ (d : Nat) {b : Str} (y : Str), y ∈ (ws.take k.toNat ++ [b]) ++ ws.drop d → BadW b → Nbw y := fun d b y hy hb2 => by
      simp only [List.mem_append, List.mem_cons, List.not_mem_nil, or_false] at hy
      rcases hy with (h | rfl) | h
      · exact hb.sp y (List.mem_of_mem_take h)
      · exact bad_sp hb2
      · exact hb.sp y (List.mem_of_mem_drop h)
    have bq : ∀ (d : Nat) {b : Str}, BadW b → BentQ (Txt.join " " ((ws.take k.toNat ++ [b]) ++ ws.drop d)) → True := fun _ _ _ _ => trivial
    have bput : ∀ (d : Nat) {b : Str}, BadW b → (k.toNat ≤ d) → BentQ (Txt.join " " ((ws.take k.toNat ++ [b]) ++ ws.drop d)) := fun d b hb2 hd => bent_put (fun y h => hb.sp y (List.mem_of_mem_take h)) (fun y h => hb.sp y (List.mem_of_mem_drop h)) hb2 (by simp only [List.length_take, List.length_drop]; omega)
    walk_at "go"
    refine go_slL (cut_toS k0) ?_
    walk_at "go"
    refine ⟨szk' (by simp; omega), ?_⟩
    walk_at "go"
    refine go_slL (cut_fromS (by omega)) ?_
    walk_at "go"
    refine ⟨szk' (by simp; omega), ?_⟩
    rw [show (((ws.take k.toNat).map D.str ++ [D.str ("Q" : Str)]) ++ (ws.drop (k + 1).toNat).map D.str) = ((ws.take k.toNat ++ [("Q" : Str)]) ++ ws.drop (k + 1).toNat).map D.str by simp only [List.map_append]; rfl]
    refine jn (xs := (ws.take k.toNat ++ [("Q" : Str)]) ++ ws.drop (k + 1).toNat) (fun y hy => (jsp (k + 1).toNat y hy (.inr (.inl rfl))).2.2.1) (by simp only [List.length_append, List.length_cons, List.length_nil, List.length_take, List.length_drop]; omega) ?_
    walk_at "go"
    refine go_slL (cut_toS k0) ?_
    walk_at "go"
    refine ⟨szk' (by simp; omega), ?_⟩
    walk_at "go"
    refine go_slL (cut_fromS k0) ?_
    walk_at "go"
    refine ⟨szk' (by simp; omega), ?_⟩
    rw [show (((ws.take k.toNat).map D.str ++ [D.str ("" : Str)]) ++ (ws.drop k.toNat).map D.str) = ((ws.take k.toNat ++ [("" : Str)]) ++ ws.drop k.toNat).map D.str by simp only [List.map_append]; rfl]
    refine jn (xs := (ws.take k.toNat ++ [("" : Str)]) ++ ws.drop k.toNat) (fun y hy => (jsp k.toNat y hy (.inl rfl)).2.2.1) (by simp only [List.length_append, List.length_cons, List.length_nil, List.length_take, List.length_drop]; omega) ?_
    walk_at "go"
    refine go_slL (cut_toS k0) ?_
    walk_at "go"
    refine ⟨szk' (by simp; omega), ?_⟩
    walk_at "go"
    refine go_slL (cut_fromS (by omega)) ?_
    walk_at "go"
    refine ⟨szk' (by simp; omega), ?_⟩
    rw [show (((ws.take k.toNat).map D.str ++ [D.str ("00" : Str)]) ++ (ws.drop (k + 1).toNat).map D.str) = ((ws.take k.toNat ++ [("00" : Str)]) ++ ws.drop (k + 1).toNat).map D.str by simp only [List.map_append]; rfl]
    refine jn (xs := (ws.take k.toNat ++ [("00" : Str)]) ++ ws.drop (k + 1).toNat) (fun y hy => (jsp (k + 1).toNat y hy (.inr (.inr rfl))).2.2.1) (by simp only [List.length_append, List.length_cons, List.length_nil, List.length_take, List.length_drop]; omega) ?_
    walk_at "go"
    refine call_of (by show 0 < 7; decide) (by show 7 < 1000000; decide) fun y hy => ?_
    have hy : y ∈ [D.str (l ++ (" " : Str)), D.str ((" " : Str) ++ l), D.str ("" : Str), D.str (l ++ (" Q" : Str)), D.str (Txt.join " " (ws.take k.toNat ++ [("Q" : Str)] ++ ws.drop (k + 1).toNat)), D.str (Txt.join " " (ws.take k.toNat ++ [("" : Str)] ++ ws.drop k.toNat)), D.str (Txt.join " " (ws.take k.toNat ++ [("00" : Str)] ++ ws.drop (k + 1).toNat))] := hy
    simp only [List.mem_cons, List.not_mem_nil, or_false] at hy
    rcases hy with rfl | rfl | rfl | rfl | rfl | rfl | rfl
    · exact q _ (bent_sp hb (by omega))
    · exact q _ (bent_ps hb (by omega))
    · exact q _ bent_nil
    · exact q _ (bent_q hb (by omega))
    · exact q _ (bput _ (.inr (.inl rfl)) (by omega))
    · exact q _ (bput _ (.inl rfl) (by omega))
    · exact q _ (bput _ (.inr (.inr rfl)) (by omega))
end
end LW
set_option Elab.async false
set_option linter.all false
set_option maxRecDepth 100000
set_option maxHeartbeats 4000000
set_option pp.maxSteps 1200
namespace LW
open PySem PySem.Spec PyProof.Rows L2 EV PySem.XO PySem.W LamX
theorem numP_bad {w : Str} (h : BadW w) : numP w = none := by
  rcases h with rfl | rfl | rfl <;> decide +kernel
theorem nm_bad {w : Str} (h : BadW w) : isNm (.str w) = false := by
  rcases h with rfl | rfl | rfl <;> decide +kernel
theorem form_bad {w : Str} (h : BadW w) : formsT.lookup w = none := by
  rcases h with rfl | rfl | rfl <;> rfl
theorem item_bad {k : Nat} {w : Str} (h : BadW w) : isNonR (itemR k w) = true ∨ strOkR (itemR k w) = false := by
  unfold itemR
  by_cases e : k = 116
  · rw [if_pos e]; exact .inr (nm_bad h)
  · rw [if_neg e, numP_bad h]; exact .inl rfl
theorem zip_bad {w : Str} (h : BadW w) : ∀ {ks : List Nat} {ws : List Str}, w ∈ ws → ws.length = ks.length → ((ks.zipWith itemR ws).any isNonR || !(ks.zipWith itemR ws).all strOkR) = true
  | [], [], hm, _ => by cases hm
  | k :: ks, v :: ws, hm, hl => by
    rw [List.zipWith_cons_cons, List.any_cons, List.all_cons]
    rcases List.mem_cons.mp hm with rfl | hm
    · rcases item_bad (k := k) h with h | h <;> rw [h] <;> simp
    · have := zip_bad h (ks := ks) hm (by simpa using hl)
      rcases Bool.or_eq_true_iff.mp this with h | h
      · rw [h]; simp
      · rw [Bool.not_eq_true'] at h
        rw [h]; simp
theorem rowM_eq (z : Str) (its : List Str) : rowM (z :: its) = (match formsT.lookup z with
    | some (.str fm) => if its.length = fm.length then (if ((co fm).zipWith itemR its).any isNonR || !((co fm).zipWith itemR its).all strOkR then none else some (.str z :: (co fm).zipWith itemR its)) else none
    | _ => none) := rfl
theorem rowM_bad {ws : List Str} {w : Str} (hm : w ∈ ws) (h : BadW w) : rowM ws = none := by
  cases ws with
  | nil => rfl
  | cons z its =>
    rw [rowM_eq]
    rcases List.mem_cons.mp hm with rfl | hm
    · rw [form_bad h]
    · cases formsT.lookup z with
      | none => rfl
      | some d =>
        cases d with
        | str fm =>
          dsimp only
          by_cases hl : its.length = fm.length
          · rw [if_pos hl, if_pos (zip_bad h (ks := co fm) hm (by rw [hl]; exact Array.length_toList.symm))]
          · rw [if_neg hl]
        | _ => rfl
theorem bad_ne {w z : Str} (h : BadW w) (hz : z ∈ (["cell", "inputs"] : List Str)) : w ≠ z := by
  simp only [List.mem_cons, List.not_mem_nil, or_false] at hz
  rcases hz with rfl | rfl <;> rcases h with rfl | rfl | rfl <;> decide +kernel
theorem inpM_bad {ws : List Str} {w : Str} (hm : w ∈ ws) (h : BadW w) : inpM ws = none := by
  unfold inpM
  split
  · rename_i a b
    simp only [List.mem_cons, List.not_mem_nil, or_false] at hm
    by_cases e : a = "inputs"
    · rcases hm with rfl | rfl
      · exact absurd e (bad_ne h (by simp))
      · rw [decide_eq_true e, if_pos rfl]; exact numP_bad h
    · rw [decide_eq_false e]; rfl
  · rfl
theorem cellM_bad {ws : List Str} {w : Str} (hm : w ∈ ws) (h : BadW w) (hc : ws.headD "" = "cell") : cellM ws = none := by
  unfold cellM
  split
  · rename_i a b
    simp only [List.mem_cons, List.not_mem_nil, or_false] at hm
    rcases hm with rfl | rfl
    · exact absurd hc (bad_ne h (by simp))
    · exact numP_bad h
  · rfl
abbrev hdL (n : Nat) : Str := Txt.join " " ["inputs", numW n]
theorem hd_spl {n : Nat} (h : n ≤ 10000) : spl (hdL n) = [("inputs" : Str), numW n] := spl_join (by simp) fun y hy => by
  simp only [List.mem_cons, List.not_mem_nil, or_false] at hy
  rcases hy with rfl | rfl
  · exact lit_nbw "inputs" (by simp)
  · exact (num_small h).1
theorem cell_spl {k : Nat} (h : k ≤ 10000) : spl (cellL k) = [("cell" : Str), numW k] := spl_join (by simp) fun y hy => by
  simp only [List.mem_cons, List.not_mem_nil, or_false] at hy
  rcases hy with rfl | rfl
  · exact lit_nbw "cell" (by simp)
  · exact (num_small h).1
theorem hd_inp {n : Nat} (h : n ≤ 10000) : inpM (spl (hdL n)) = some n := by
  rw [hd_spl h]
  show (if decide (("inputs" : Str) = "inputs") then numP (numW n) else none) = some n
  rw [decide_eq_true rfl, if_pos rfl]; exact (num_small h).2
/-- what is read of cells, behind some -/
theorem cells_on {inp : Nat} {rest : List Str} : ∀ {ks acc : List Nat}, (∀ k ∈ ks, k ≤ 10000) → acc.length + ks.length < 300 → (∀ j k, j < inp → (acc ++ ks)[j]? = some k → k = 0) → cellsM inp (ks.map cellL ++ rest) acc = cellsM inp rest (acc ++ ks)
  | [], acc, _, _, _ => by rw [List.map_nil, List.nil_append, List.append_nil]
  | k :: ks, acc, hk, hl, hz => by
    have hk2 := hk k (by simp)
    rw [List.map_cons, List.cons_append]
    conv => lhs; unfold cellsM
    rw [cell_spl hk2, if_neg (by simp)]
    show (match numP (numW k) with
      | none => _
      | some m => _) = _
    rw [(num_small hk2).2]
    dsimp only
    have hz2 : acc.length < inp → k = 0 := fun h => hz acc.length k h (by simp)
    rw [if_neg (by
      simp only [List.length_cons] at hl
      rintro (h | h | ⟨h1, h2⟩)
      · omega
      · omega
      · have := hz2 h1; omega)]
    rw [cells_on (fun x hx => hk x (by simp [hx])) (by simp only [List.length_append, List.length_cons, List.length_nil] at hl ⊢; omega) (fun j x hj hx => hz j x hj (by rwa [List.append_assoc] at hx)), List.append_assoc]
    rfl
structure Cl (n : Nat) (ks : List Nat) : Prop where
  n1 : n ≤ 1
  k6 : ks.length ≤ 6
  kk : ∀ k ∈ ks, k ≤ 10000
  z : n = 1 → ks[0]? = some 0 ∨ ks = []
theorem Cl.take {n : Nat} {ks : List Nat} (h : Cl n ks) (j : Nat) : Cl n (ks.take j) := by
  obtain ⟨a, b, c, d⟩ := h
  refine ⟨a, by rw [List.length_take]; omega, fun k hk => c k (List.mem_of_mem_take hk), fun e => ?_⟩
  rcases d e with d | rfl
  · cases j with
    | zero => exact .inr (List.take_zero ..)
    | succ j => exact .inl (by rw [List.getElem?_take_of_lt (by omega)]; exact d)
  · exact .inr (List.take_nil)
theorem Cl.zz {n : Nat} {ks : List Nat} (h : Cl n ks) (j k : Nat) (hj : j < n) (e : ([] ++ ks)[j]? = some k) : k = 0 := by
  have hn := h.n1
  have hj0 : j = 0 := by omega
  subst hj0
  rw [List.nil_append] at e
  rcases h.z (by omega) with d | rfl
  · rw [d] at e; cases e; rfl
  · cases e
theorem readCM_eq {n : Nat} {ks : List Nat} {rest : List Str} (h : Cl n ks) : readCM (hdL n :: (ks.map cellL ++ rest)) = (match cellsM n rest ks with
    | .inl e => .inl e
    | .inr cs => if cs.length < n then .inl (1 + cs.length) else .inr (n, cs)) := by
  have hn := h.n1
  have hk := h.k6
  unfold readCM
  rw [List.headD_cons, hd_inp (by omega)]
  dsimp only
  rw [if_neg (by omega), List.tail_cons, cells_on h.kk (by show 0 + _ < 300; omega) h.zz, List.nil_append]
  all_goals (cases cellsM n rest ks <;> rfl)
theorem drop_cells (x : Str) (ks : List Nat) (rest : List Str) : (x :: (ks.map cellL ++ rest)).drop (1 + ks.length) = rest := by
  rw [Nat.add_comm, List.drop_succ_cons, List.drop_append_of_le_length (by simp), List.drop_of_length_le (by simp), List.nil_append]
/-- what is read behind the cells -/
theorem rp_on {n : Nat} {ks : List Nat} {rest : List Str} (h : Cl n ks) (hn : n ≤ ks.length) (hc : ∀ l r, rest = l :: r → (spl l).headD "" ≠ "cell") : readRP (hdL n :: (ks.map cellL ++ rest)) = if rest = [] then .inl (1 + ks.length) else match rowsM rest (1 + ks.length) with
    | .inl e => .inl e
    | .inr rs => match chkRows (ks.length : Int) (rs.map D.tup) with
      | some k => .inl (1 + ks.length + k)
      | none => .inr (n, ks, rs) := by
  have e : cellsM n rest ks = .inr ks := by
    cases rest with
    | nil => rfl
    | cons l r =>
      unfold cellsM
      rw [if_pos (decide_eq_false (hc l r rfl))]
  unfold readRP
  rw [readCM_eq h, e]
  dsimp only
  rw [if_neg (by omega)]
  dsimp only
  by_cases hr : rest = []
  · subst hr
    rw [if_pos rfl, if_pos (by simp; omega)]
  · have := List.length_pos_iff.mpr hr
    rw [if_neg hr, if_neg (by simp; omega), drop_cells]
    all_goals (rcases rowsM rest (1 + ks.length) with e | rs <;> first | rfl | (dsimp only; cases chkRows (ks.length : Int) (rs.map D.tup) <;> rfl))
theorem rowsM_cons (x : Str) (xs : List Str) (k : Nat) : rowsM (x :: xs) k = (match rowM (spl x) with
    | none => .inl k
    | some r => match rowsM xs (k + 1) with
      | .inl e => .inl e
      | .inr rs => .inr (r :: rs)) := rfl
theorem rowsM_at {bad : Str} {tl : List Str} (hb : rowM (spl bad) = none) : ∀ {xs : List Str} {k : Nat}, (∀ l ∈ xs, ∃ r, rowM (spl l) = some r) → rowsM (xs ++ bad :: tl) k = .inl (k + xs.length)
  | [], k, _ => by
    rw [List.nil_append, rowsM_cons, hb]; rfl
  | x :: xs, k, h => by
    obtain ⟨r, hr⟩ := h x (by simp)
    rw [List.cons_append, rowsM_cons, hr, rowsM_at hb fun l hl => h l (List.mem_cons_of_mem _ hl)]
    dsimp only
    rw [List.length_cons]
    congr 1; omega
theorem rowsM_all {F : Str → List D} : ∀ {xs : List Str} {k : Nat}, (∀ l ∈ xs, rowM (spl l) = some (F l)) → rowsM xs k = .inr (xs.map F)
  | [], k, _ => rfl
  | x :: xs, k, h => by
    rw [rowsM_cons, h x (by simp), rowsM_all fun l hl => h l (List.mem_cons_of_mem _ hl)]
    rfl
/-- a bent line behind cells -/
theorem rp_bent {n : Nat} {ks : List Nat} {l : Str} {ws : List Str} {w : Str} {rest : List Str} (h : Cl n ks) (hs : spl l = ws) (hm : w ∈ ws) (hb : BadW w) : readRP (hdL n :: (ks.map cellL ++ l :: rest)) = .inl (1 + ks.length) := by
  by_cases hc : ws.headD "" = "cell"
  · unfold readRP
    rw [readCM_eq h]
    unfold cellsM
    rw [hs, if_neg (by rw [decide_eq_true hc]; decide), cellM_bad hm hb hc]
  · by_cases hl : ks.length < n
    · unfold readRP
      rw [readCM_eq h]
      unfold cellsM
      rw [hs, if_pos (decide_eq_false hc)]
      dsimp only
      rw [if_pos hl]
    · rw [rp_on h (by omega) fun l' r e => by cases e; rw [hs]; exact hc]
      rw [if_neg (List.cons_ne_nil _ _)]
      have := rowsM_at (bad := l) (tl := rest) (by rw [hs]; exact rowM_bad hm hb) (xs := []) (k := 1 + ks.length) fun _ h => nomatch h
      rw [List.nil_append] at this
      rw [this]; rfl
theorem rp_head {l : Str} {ws : List Str} {w : Str} {rest : List Str} (hs : spl l = ws) (hm : w ∈ ws) (hb : BadW w) : readRP (l :: rest) = .inl 0 := by
  unfold readRP readCM
  rw [List.headD_cons, hs, inpM_bad hm hb]
end LW
set_option Elab.async false
set_option linter.all false
set_option maxRecDepth 100000
set_option maxHeartbeats 4000000
set_option pp.maxSteps 1200
namespace LW
open PySem PySem.Spec PyProof.Rows L2 EV PySem.XO PySem.W LamX
abbrev rowL (r : D) : Str := Txt.join " " ((itemsR r).map wtx)
theorem stp_five {c m : Int} {w0 w1 : Str} {r : D} (h : Stp c m w0 w1 r) : (itemsR r).length ≤ 5 := by
  obtain ⟨a, b, j, a0, a1, b0, b1, j0, j1, h⟩ := h
  simp only [stpL, List.mem_cons, List.not_mem_nil, or_false] at h
  rcases h with rfl | rfl | rfl | rfl | rfl | rfl | rfl | rfl | rfl | rfl | rfl | rfl <;> simp [itemsR]
/-- a page, cut up -/
structure Pc (w0 w1 : Str) (n : Nat) (ks : List Nat) (rs : List D) : Prop where
  cl : Cl n ks
  n1 : n ≤ ks.length
  k1 : 1 ≤ ks.length
  k5 : ks.length ≤ 5
  r : ∀ r ∈ rs, Stp ks.length rs.length w0 w1 r
  r1 : 1 ≤ rs.length
  rl : rs.length ≤ 10
abbrev pgL (n : Nat) (ks : List Nat) (rs : List D) : List Str := hdL n :: (ks.map cellL ++ rs.map rowL)
theorem PG.cut {w0 w1 : Str} {cs rs : List D} {i : Int} (h : PG w0 w1 cs rs i) : ∃ n ks, i = ((n : Nat) : Int) ∧ cs = ks.map natD ∧ Pc w0 w1 n ks rs ∧ pageL cs rs i = pgL n ks rs := by
  obtain ⟨c1, c4, hc, i0, i1, iz, hr, r1, rl, _⟩ := h
  obtain ⟨n, rfl⟩ : ∃ n : Nat, i = (n : Int) := ⟨i.toNat, by omega⟩
  obtain ⟨ks, rfl, hk⟩ := cells_nat hc
  rw [List.length_map] at c1 c4
  refine ⟨n, ks, rfl, rfl, ⟨⟨by omega, by omega, hk, fun e => ?_⟩, by omega, c1, c4, fun r h => by have := hr r h; rwa [List.length_map] at this, r1, rl⟩, ?_⟩
  · have := iz (by omega)
    cases ks with
    | nil => exact .inr rfl
    | cons k0 ks0 =>
      refine .inl ?_
      simp only [List.map_cons, List.getD_cons_zero] at this
      have : ((k0 : Nat) : Int) = 0 := by simpa [natD] using this
      rw [List.getElem?_cons_zero]
      congr 1; omega
  · rw [pageL_eq, List.map_map]; rfl
section
variable {w0 w1 : Str} {n : Nat} {ks : List Nat} {rs : List D}
theorem Pc.back (n0 : isNm (.str w0) = true) (n1 : isNm (.str w1) = true) (h : Pc w0 w1 n ks rs) : ∀ r ∈ rs, r = .tup (itemsR r) ∧ rowM (spl (rowL r)) = some (itemsR r) ∧ (spl (rowL r)).headD "" ≠ "cell" ∧ Bent (rowL r) ((itemsR r).map wtx) := fun r hr => by
  have k5 := h.k5
  have rl := h.rl
  obtain ⟨e, ne, hl, hw, hm⟩ := row_back n0 n1 (by omega) (by omega) (h.r r hr)
  have b : Bent (rowL r) ((itemsR r).map wtx) := ⟨rfl, by simp [ne], fun y hy => by
    obtain ⟨d, hd, rfl⟩ := List.mem_map.mp hy
    exact (nbd_tx (hw d hd)).1, by rw [List.length_map]; have := stp_five (h.r r hr); omega⟩
  rw [b.spl]
  exact ⟨e, hm, head_row (h.r r hr), b⟩
theorem Pc.words (n0 : isNm (.str w0) = true) (n1 : isNm (.str w1) = true) (h : Pc w0 w1 n ks rs) : ∀ l ∈ pgL n ks rs, ∃ ws, Bent l ws ∧ ws.length ≤ 5 := fun l hl => by
  have hn := h.cl.n1
  simp only [pgL, List.mem_cons, List.mem_append, List.mem_map] at hl
  rcases hl with rfl | ⟨k, hk, rfl⟩ | ⟨r, hr, rfl⟩
  · refine ⟨[("inputs" : Str), numW n], ⟨rfl, by simp, fun y hy => ?_, by show 2 ≤ 8; decide⟩, by show 2 ≤ 5; decide⟩
    simp only [List.mem_cons, List.not_mem_nil, or_false] at hy
    rcases hy with rfl | rfl
    · exact lit_nbw "inputs" (by simp)
    · exact (num_small (by omega)).1
  · refine ⟨[("cell" : Str), numW k], ⟨rfl, by simp, fun y hy => ?_, by show 2 ≤ 8; decide⟩, by show 2 ≤ 5; decide⟩
    simp only [List.mem_cons, List.not_mem_nil, or_false] at hy
    rcases hy with rfl | rfl
    · exact lit_nbw "cell" (by simp)
    · exact (num_small (h.cl.kk k hk)).1
  · exact ⟨_, (h.back n0 n1 r hr).2.2.2, by rw [List.length_map]; exact stp_five (h.r r hr)⟩
theorem pg_take {a j : Nat} (h : a = 1 + ks.length + j) : (pgL n ks rs).take a = hdL n :: (ks.map cellL ++ (rs.take j).map rowL) := by
  subst h
  rw [show 1 + ks.length + j = (ks.map cellL).length + j + 1 by simp; omega, List.take_succ_cons, List.take_length_add_append, List.map_take]
theorem pg_drop {a j : Nat} (h : a = 1 + ks.length + j) : (pgL n ks rs).drop a = (rs.drop j).map rowL := by
  subst h
  rw [show 1 + ks.length + j = (ks.map cellL).length + j + 1 by simp; omega, List.drop_succ_cons, List.drop_append, List.drop_of_length_le (by omega), Nat.add_sub_cancel_left, List.nil_append, List.map_drop]
theorem pg_len : (pgL n ks rs).length = 1 + ks.length + rs.length := by simp [pgL]; omega
/-- a page with a bent line -/
theorem Pc.bent (n0 : isNm (.str w0) = true) (n1 : isNm (.str w1) = true) (h : Pc w0 w1 n ks rs) {at' : Nat} (ha : at' < (pgL n ks rs).length) {bl : Str} (hb : BentQ bl) (tl : List Str) : readRP ((pgL n ks rs).take at' ++ [bl] ++ tl) = .inl at' := by
  obtain ⟨ws, hbt, w, hm, hw⟩ := hb
  rw [pg_len] at ha
  cases at' with
  | zero =>
    rw [List.take_zero, List.nil_append, List.singleton_append]
    exact rp_head hbt.spl hm hw
  | succ a =>
    by_cases hk : a ≤ ks.length
    · have e : (pgL n ks rs).take (a + 1) = hdL n :: ((ks.take a).map cellL) := by
        rw [List.take_succ_cons, List.take_append_of_le_length (by simpa using hk), List.map_take]
      rw [e, List.append_assoc, List.cons_append, List.singleton_append, rp_bent (h.cl.take a) hbt.spl hm hw, List.length_take]
      congr 1; omega
    · obtain ⟨j, rfl⟩ : ∃ j, a = ks.length + (j + 1) := ⟨a - ks.length - 1, by omega⟩
      rw [pg_take (j := j + 1) (by omega), List.append_assoc, List.cons_append, List.append_assoc, List.singleton_append]
      have hbk := h.back n0 n1
      have hne : (rs.take (j + 1)).map rowL ++ bl :: tl ≠ [] := by simp
      rw [rp_on h.cl h.n1 fun l r e => ?_, if_neg hne, rowsM_at (bad := bl) (by rw [hbt.spl]; exact rowM_bad hm hw) fun l hl => ?_]
      · dsimp only
        rw [List.length_map, List.length_take]
        congr 1; omega
      · obtain ⟨r, hr, rfl⟩ := List.mem_map.mp hl
        exact ⟨_, (hbk r (List.mem_of_mem_take hr)).2.1⟩
      · cases rs with
        | nil => have := h.r1; cases this
        | cons r0 rs0 =>
          rw [List.take_succ_cons, List.map_cons, List.cons_append] at e
          cases e
          exact (hbk r0 (by simp)).2.2.1
/-- a line that cannot stand, put in -/
structure Wr (c m : Nat) (l : Str) : Prop where
  m : rowM (spl l) = none ∨ ∃ r, rowM (spl l) = some r ∧ isStp (.tup r) (c : Int) ((m : Int) + 1) = false
abbrev itL (l : Str) : List D := (rowM (spl l)).getD []
theorem map_it (hb : ∀ r ∈ rs, r = .tup (itemsR r) ∧ rowM (spl (rowL r)) = some (itemsR r)) : ((rs.map rowL).map itL).map D.tup = rs := by
  rw [List.map_map, List.map_map]
  conv => rhs; rw [← List.map_id rs]
  refine List.map_congr_left fun r hr => ?_
  obtain ⟨a, b⟩ := hb r hr
  show D.tup ((rowM (spl (rowL r))).getD []) = r
  rw [b]; exact a.symm
theorem Pc.put (n0 : isNm (.str w0) = true) (n1 : isNm (.str w1) = true) (ne : w0 ≠ w1) (h : Pc w0 w1 n ks rs) {sp j : Nat} (hs : sp = 1 + ks.length + j) (hj : j < rs.length) {l : Str} (hw : Wr ks.length rs.length l) (hc : j = 0 → (spl l).headD "" ≠ "cell") : readRP ((pgL n ks rs).take sp ++ [l] ++ (pgL n ks rs).drop sp) = .inl sp := by
  have hbk := h.back n0 n1
  rw [pg_take hs, pg_drop hs, List.append_assoc, List.cons_append, List.append_assoc, List.singleton_append]
  have hne : (rs.take j).map rowL ++ l :: (rs.drop j).map rowL ≠ [] := by simp
  rw [rp_on h.cl h.n1 fun l' r e => ?_, if_neg hne]
  · rcases hw.m with hw | ⟨r, hr, hst⟩
    · rw [rowsM_at hw fun l hl => ?_]
      · dsimp only
        rw [List.length_map, List.length_take]
        congr 1; omega
      · obtain ⟨r, hr, rfl⟩ := List.mem_map.mp hl
        exact ⟨_, (hbk r (List.mem_of_mem_take hr)).2.1⟩
    · rw [rowsM_all (F := itL) fun y hy => ?_]
      · dsimp only
        have e : (((rs.take j).map rowL ++ l :: (rs.drop j).map rowL).map itL).map D.tup = rs.take j ++ [D.tup r] ++ rs.drop j := by
          rw [List.map_append, List.map_append, List.map_cons, List.map_cons, map_it fun r hr => ⟨(hbk r (List.mem_of_mem_take hr)).1, (hbk r (List.mem_of_mem_take hr)).2.1⟩, map_it fun r hr => ⟨(hbk r (List.mem_of_mem_drop hr)).1, (hbk r (List.mem_of_mem_drop hr)).2.1⟩, List.append_assoc, List.singleton_append]
          show _ ++ D.tup ((rowM (spl l)).getD []) :: _ = _
          rw [hr]; rfl
        rw [e, chk_bad n0 n1 ne h.r (by omega) hst]
        dsimp only
        congr 1; omega
      · have key : ∃ r, rowM (spl y) = some r := by
          simp only [List.mem_append, List.mem_cons, List.mem_map] at hy
          rcases hy with ⟨r', hr', rfl⟩ | rfl | ⟨r', hr', rfl⟩
          · exact ⟨_, (hbk r' (List.mem_of_mem_take hr')).2.1⟩
          · exact ⟨_, hr⟩
          · exact ⟨_, (hbk r' (List.mem_of_mem_drop hr')).2.1⟩
        obtain ⟨r', e⟩ := key
        show rowM (spl y) = some ((rowM (spl y)).getD [])
        rw [e]; rfl
  · by_cases hj0 : j = 0
    · subst hj0
      rw [List.take_zero, List.map_nil, List.nil_append] at e
      cases e
      exact hc rfl
    · obtain ⟨j', rfl⟩ : ∃ j', j = j' + 1 := ⟨j - 1, by omega⟩
      cases rs with
      | nil => cases hj
      | cons r0 rs0 =>
        rw [List.take_succ_cons, List.map_cons, List.cons_append] at e
        cases e
        exact (hbk r0 (by simp)).2.2.1
theorem Pc.first (h : Pc w0 w1 n ks rs) {a : Nat} (ha : a = 1 + ks.length) : readRP ((pgL n ks rs).take a) = .inl a := by
  rw [pg_take (j := 0) (by omega), List.take_zero, List.map_nil, rp_on h.cl h.n1 fun _ _ e => (by cases e), if_pos rfl, ha]
theorem Pc.tail (n0 : isNm (.str w0) = true) (n1 : isNm (.str w1) = true) (h : Pc w0 w1 n ks rs) : readRP (pgL n ks rs ++ [("" : Str)]) = .inl (pgL n ks rs).length := by
  have hbk := h.back n0 n1
  rw [pg_len, List.cons_append, List.append_assoc, rp_on h.cl h.n1 fun l' r e => ?_, if_neg (by simp), rowsM_at (by decide +kernel) fun l hl => ?_]
  · dsimp only; rw [List.length_map]
  · obtain ⟨r, hr, rfl⟩ := List.mem_map.mp hl
    exact ⟨_, (hbk r hr).2.1⟩
  · cases rs with
    | nil => have := h.r1; cases this
    | cons r0 rs0 =>
      rw [List.map_cons, List.cons_append] at e
      cases e
      exact (hbk r0 (by simp)).2.2.1
theorem up_row : rowM (spl "up 0") = some [.str "up", .int 0] := by
  have e : spl "up 0" = [("up" : Str), "0"] := by decide +kernel
  have hn : numP "0" = some 0 := by decide +kernel
  rw [e, rowM_of (fm := "c") (found := [.int 0]) rfl (by show 1 = ("c" : Str).length; decide +kernel) (by rw [fc1, List.zipWith_cons_cons, List.zipWith_nil_left]; unfold itemR; rw [if_neg (by decide), hn]; rfl) rfl rfl]
theorem Pc.up (n0 : isNm (.str w0) = true) (n1 : isNm (.str w1) = true) (ne : w0 ≠ w1) (h : Pc w0 w1 n ks rs) : readRP (pgL n ks rs ++ [("up 0" : Str)]) = .inl (pgL n ks rs).length := by
  have hbk := h.back n0 n1
  have hk1 := h.k1
  have hst : Stp ks.length ((rs.length : Int) + 1) w0 w1 (.tup [.str "up", .int 0]) := ⟨0, 0, 0, by omega, by omega, by omega, by omega, by omega, by omega, by simp [stpL]⟩
  rw [pg_len, List.cons_append, List.append_assoc, rp_on h.cl h.n1 fun l' r e => ?_, if_neg (by simp), rowsM_all (F := itL) fun y hy => ?_]
  · dsimp only
    have e : ((rs.map rowL ++ [("up 0" : Str)]).map itL).map D.tup = rs ++ [D.tup [.str "up", .int 0]] := by
      rw [List.map_append, List.map_append, map_it fun r hr => ⟨(hbk r hr).1, (hbk r hr).2.1⟩]
      show _ ++ [D.tup ((rowM (spl "up 0")).getD [])] = _
      rw [up_row]; rfl
    rw [e, chk_last n0 n1 ne h.r hst (by decide +kernel)]
  · have key : ∃ r, rowM (spl y) = some r := by
      simp only [List.mem_append, List.mem_cons, List.not_mem_nil, or_false, List.mem_map] at hy
      rcases hy with ⟨r', hr', rfl⟩ | rfl
      · exact ⟨_, (hbk r' hr').2.1⟩
      · exact ⟨_, up_row⟩
    obtain ⟨r', e⟩ := key
    show rowM (spl y) = some ((rowM (spl y)).getD [])
    rw [e]; rfl
  · cases rs with
    | nil => have := h.r1; cases this
    | cons r0 rs0 =>
      rw [List.map_cons, List.cons_append] at e
      cases e
      exact (hbk r0 (by simp)).2.2.1
end
end LW
set_option Elab.async false
set_option linter.all false
set_option maxRecDepth 100000
set_option maxHeartbeats 4000000
set_option pp.maxSteps 1200
namespace LW
open PySem PySem.Spec PyProof.Rows L2 EV PySem.XO PySem.W LamX
def LnOk (l : Str) : Prop := 10 ∉ l.cps.toList ∧ l.length ≤ 200 ∧ ∀ z ∈ spl l, PyData.strOk z = true
theorem Bent.ln {l : Str} {ws : List Str} (h : Bent l ws) : LnOk l := ⟨h.nl, by have := h.len; omega, fun z hz => by rw [h.spl] at hz; exact (h.sp z hz).2.2.2⟩
theorem BentQ.ln {l : Str} (h : BentQ l) : LnOk l := by obtain ⟨ws, h, _⟩ := h; exact h.ln
def lnB (l : Str) : Bool := !l.cps.toList.contains 10 && (decide (l.length ≤ 200) && (spl l).all fun z => PyData.strOk z)
theorem ln_of {l : Str} (h : lnB l = true) : LnOk l := by
  simp only [lnB, Bool.and_eq_true, decide_eq_true_eq, List.all_eq_true, Bool.not_eq_true', List.contains_eq_mem, decide_eq_false_iff_not] at h
  exact ⟨h.1, h.2.1, h.2.2⟩
/-- what is put in -/
def wrL (tc tj w0 : Str) : List Str := ["read " ++ tc, "jump " ++ tj, ("same 0 " ++ tc) ++ " 0", "less 0 0 " ++ tj, "up -1", "halt", "end 0", "read", "has A 0 0", "has 0 0 0", ("link " ++ w0) ++ " 0 0", "cell 2", "inputs 0", "zero 0 0", "copy 0", "read  0", "has zzzzzzz 0 0"]
def wrB (c m : Nat) (l : Str) : Bool := lnB l && match rowM (spl l) with
  | none => true
  | some r => !isStp (.tup r) (c : Int) ((m : Int) + 1)
theorem wr_of {c m : Nat} {l : Str} (h : wrB c m l = true) : Wr c m l ∧ LnOk l := by
  unfold wrB at h
  rw [Bool.and_eq_true] at h
  refine ⟨⟨?_⟩, ln_of h.1⟩
  have h2 := h.2
  cases e : rowM (spl l) with
  | none => exact .inl rfl
  | some r => rw [e] at h2; exact .inr ⟨r, rfl, by simpa using h2⟩
theorem wr_dep : ∀ c < 6, ∀ m < 11, (["read " ++ numW c, "jump " ++ numW (m + 1), ("same 0 " ++ numW c) ++ " 0", "less 0 0 " ++ numW (m + 1)] : List Str).all (fun l => wrB c m l && !decide ((spl l).headD "" = "cell")) = true := by decide +kernel
theorem wr_in : (["up -1", "halt", "end 0", "read", "has A 0 0", "has 0 0 0", "inputs 0", "zero 0 0", "copy 0", "read  0", "has zzzzzzz 0 0"] : List Str).all (fun l => lnB l && ((rowM (spl l)).isNone && !decide ((spl l).headD "" = "cell"))) = true := by decide +kernel
theorem wr_cell : lnB "cell 2" = true ∧ (rowM (spl "cell 2")).isNone = true := by decide +kernel
theorem link_join (w0 : Str) : ("link " ++ w0) ++ " 0 0" = Txt.join " " ["link", w0, "0", "0"] := by
  rw [join_more, join_more, join_more, join_one, show (" 0 0" : Str) = " " ++ (("0" ++ " ") ++ "0") by decide +kernel, show ("link " : Str) = "link" ++ " " by decide +kernel]
  simp only [app_assoc3]
theorem wr_link {c m : Nat} {w0 : Str} (n0 : isNm (.str w0) = true) : Wr c m (("link " ++ w0) ++ " 0 0") ∧ LnOk (("link " ++ w0) ++ " 0 0") ∧ (spl (("link " ++ w0) ++ " 0 0")).headD "" ≠ "cell" := by
  rw [link_join]
  have z : Nbw "0" := (num_small (k := 0) (by decide)).1
  have b : Bent (Txt.join " " ["link", w0, "0", "0"]) ["link", w0, "0", "0"] := ⟨rfl, by simp, fun y hy => by
    simp only [List.mem_cons, List.not_mem_nil, or_false] at hy
    rcases hy with rfl | rfl | rfl | rfl
    · exact lit_nbw "link" (by simp)
    · exact nm_nbw n0
    · exact z
    · exact z, by show 4 ≤ 8; decide⟩
  refine ⟨⟨.inl ?_⟩, b.ln, ?_⟩
  · rw [b.spl, rowM_eq, show formsT.lookup ("link" : Str) = some (.str "tccj") from rfl]
    dsimp only
    rw [if_neg (by show ¬ 3 = ("tccj" : Str).length; decide +kernel)]
  · rw [b.spl, List.headD_cons]; decide +kernel
theorem wr_all {c m : Nat} {w0 l : Str} (n0 : isNm (.str w0) = true) (hc : c ≤ 5) (hm : m ≤ 10) (hl : l ∈ wrL (numW c) (numW (m + 1)) w0) : Wr c m l ∧ LnOk l ∧ (l = "cell 2" ∨ (spl l).headD "" ≠ "cell") := by
  have hd := List.all_eq_true.mp (wr_dep c (by omega) m (by omega))
  have hi := List.all_eq_true.mp wr_in
  have dep : ∀ l, l ∈ (["read " ++ numW c, "jump " ++ numW (m + 1), ("same 0 " ++ numW c) ++ " 0", "less 0 0 " ++ numW (m + 1)] : List Str) → Wr c m l ∧ LnOk l ∧ (l = "cell 2" ∨ (spl l).headD "" ≠ "cell") := fun l hl => by
    have := hd l hl
    rw [Bool.and_eq_true, Bool.not_eq_true', decide_eq_false_iff_not] at this
    exact ⟨(wr_of this.1).1, (wr_of this.1).2, .inr this.2⟩
  have inn : ∀ l, l ∈ (["up -1", "halt", "end 0", "read", "has A 0 0", "has 0 0 0", "inputs 0", "zero 0 0", "copy 0", "read  0", "has zzzzzzz 0 0"] : List Str) → Wr c m l ∧ LnOk l ∧ (l = "cell 2" ∨ (spl l).headD "" ≠ "cell") := fun l hl => by
    have := hi l hl
    rw [Bool.and_eq_true, Bool.and_eq_true, Bool.not_eq_true', decide_eq_false_iff_not, Option.isNone_iff_eq_none] at this
    exact ⟨⟨.inl this.2.1⟩, ln_of this.1, .inr this.2.2⟩
  have lk := wr_link (c := c) (m := m) n0
  have cl : Wr c m "cell 2" ∧ LnOk "cell 2" := ⟨⟨.inl (Option.isNone_iff_eq_none.mp wr_cell.2)⟩, ln_of wr_cell.1⟩
  unfold wrL at hl
  clear hd hi
  generalize ("read " : Str) ++ numW c = a1 at hl dep
  generalize ("jump " : Str) ++ numW (m + 1) = a2 at hl dep
  generalize (("same 0 " : Str) ++ numW c) ++ " 0" = a3 at hl dep
  generalize ("less 0 0 " : Str) ++ numW (m + 1) = a4 at hl dep
  generalize (("link " : Str) ++ w0) ++ " 0 0" = a5 at hl lk
  simp only [List.mem_cons, List.not_mem_nil, or_false] at hl
  rcases hl with rfl | rfl | rfl | rfl | rfl | rfl | rfl | rfl | rfl | rfl | rfl | rfl | rfl | rfl | rfl | rfl | rfl
  · exact dep _ (by simp)
  · exact dep _ (by simp)
  · exact dep _ (by simp)
  · exact dep _ (by simp)
  · exact inn _ (by simp)
  · exact inn _ (by simp)
  · exact inn _ (by simp)
  · exact inn _ (by simp)
  · exact inn _ (by simp)
  · exact inn _ (by simp)
  · exact ⟨lk.1, lk.2.1, .inr lk.2.2⟩
  · exact ⟨cl.1, cl.2, .inl rfl⟩
  · exact inn _ (by simp)
  · exact inn _ (by simp)
  · exact inn _ (by simp)
  · exact inn _ (by simp)
  · exact inn _ (by simp)
def told33 : List (Str × Nat) := [(("" : Str), 0), (("inputs" : Str), 0), (("inputs 01\ncell 0\nend" : Str), 0), (("inputs 301" : Str), 0), (("inputs 1\nend" : Str), 1), (("inputs 1\ncell 2\nend" : Str), 1), (("inputs 0\ncell 10001\nend" : Str), 1), (("inputs 0" : Str), 1), (("inputs 0\nend\njump 7" : Str), 2), (("inputs 0\ncell 0\nhas a 0 0\nlink a 0 0 0\nend" : Str), 3), (("inputs 0\ncell 2\nread 0\njump 5\nhalt" : Str), 4), (("inputs 2\ncell 0" : Str), 2), (("inputs 0\ncell -1\nend" : Str), 1)]
def leftIs (k : Nat) : Sum Nat (Nat × List Nat × List (List D)) → Bool
  | .inl e => decide (e = k)
  | .inr _ => false
theorem left_is {k : Nat} {s : Sum Nat (Nat × List Nat × List (List D))} (h : leftIs k s = true) : s = .inl k := by
  cases s with
  | inl e => simp [leftIs] at h; rw [h]
  | inr _ => cases h
theorem told_all : told33.all (fun z => leftIs z.2 (readRP (Txt.split z.1 "\n")) && (decide ((Txt.split z.1 "\n").length ≤ 40) && ((Txt.split z.1 "\n").all lnB && (decide (Txt.split z.1 "\n" ≠ []) && (decide (z.1.length ≤ 10000) && decide (z.2 ≤ 9)))))) = true := by decide +kernel
theorem told_ok {z : Str × Nat} (hz : z ∈ told33) : readRP (Txt.split z.1 "\n") = .inl z.2 ∧ (Txt.split z.1 "\n").length ≤ 40 ∧ (∀ l ∈ Txt.split z.1 "\n", LnOk l) ∧ Txt.split z.1 "\n" ≠ [] ∧ z.1.length ≤ 10000 := by
  have := List.all_eq_true.mp told_all z hz
  simp only [Bool.and_eq_true, decide_eq_true_eq, List.all_eq_true] at this
  exact ⟨left_is this.1, this.2.1, fun l hl => ln_of (this.2.2.1 l hl), this.2.2.2.1, this.2.2.2.2.1⟩
theorem call_readT {A : Str → Addr} {C : Addr} {Q : QD} {E : QX} {O : Ow} {t : Str} {ls : List Str} (e : Txt.split t "\n" = ls) (ht : t.length ≤ 10000000) (ne : ls ≠ []) (h : ∀ l ∈ ls, LnOk l) (hl : ls.length ≤ 40) (qe : ∀ k, readRP ls = .inl k → E (textX (A "InvalidText") k) O) (qn : ∀ inp cs rs, readRP ls = .inr (inp, cs, rs) → Q (.ins C (rdF (cs.map natD) (rs.map D.tup) (.int (inp : Nat)))) O) : spM (readGR A C) [.str t] O Q E :=
  spM.of ⟨t, ls, rfl, e, ht, ⟨by omega, fun l m => Nat.le_trans (h l m).2.1 (by decide)⟩, ne, by omega, fun l m => (h l m).2.2, qe, qn⟩
theorem call_readR {A : Str → Addr} {C : Addr} {Q : QD} {E : QX} {O : Ow} {ls : List Str} (ne : ls ≠ []) (h : ∀ l ∈ ls, LnOk l) (hl : ls.length ≤ 40) (qe : ∀ k, readRP ls = .inl k → E (textX (A "InvalidText") k) O) (qn : ∀ inp cs rs, readRP ls = .inr (inp, cs, rs) → Q (.ins C (rdF (cs.map natD) (rs.map D.tup) (.int (inp : Nat)))) O) : spM (readGR A C) [.str (Txt.join "\n" ls)] O Q E := by
  have hjl := join_len (sep := "\n") (by decide +kernel) (xs := ls) (k := 200) fun l m => (h l m).2.1
  have h2 : ls.length * 201 ≤ 40 * 201 := Nat.mul_le_mul_right 201 hl
  exact call_readT (join_split sep_nl (by decide) ne fun l m => (h l m).1) (by omega) ne h hl qe qn
theorem call_readE {A : Str → Addr} {C : Addr} {Q : QD} {E : QX} {O : Ow} {ls : List Str} {k : Nat} (ne : ls ≠ []) (h : ∀ l ∈ ls, LnOk l) (hl : ls.length ≤ 40) (hp : readRP ls = .inl k) (q : E (textX (A "InvalidText") k) O) : spM (readGR A C) [.str (Txt.join "\n" ls)] O Q E :=
  call_readR ne h hl (fun j hj => by rw [hp] at hj; cases hj; exact q) fun _ _ _ e => by rw [hp] at e; cases e
end LW
set_option Elab.async false
set_option linter.all false
set_option maxRecDepth 100000
set_option maxHeartbeats 1500000
set_option pp.maxSteps 1200
namespace LW
open PySem PySem.Spec PyProof.Rows L2 EV PySem.XO PySem.W LamX
abbrev s_reader_lines : Stmt := topS 43
abbrev N_reader_lines : List Str := ["_law_plan_here", "_law_found", "_law_wide", "_law_step_here", "_law_item"]
theorem sc_reader_lines : FnScope N_reader_lines ["_law_plan_here"] (defScope s_reader_lines) := ⟨rfl, rfl, rfl, by decide +kernel, rfl, by decide +kernel, by decide +kernel⟩
local macro_rules | `(tactic| walk_at "fd") => `(tactic| first | assumption | rfl)
local macro_rules | `(tactic| walk_at "ow") => `(tactic| first | assumption | exact oset_self | (rw [oset_ne (by assumption)]; walk_at "ow") | (rw [oset_ne (Ne.symm (by assumption))]; walk_at "ow"))
local macro_rules | `(tactic| walk_at "ix") => `(tactic| first | exact EV.ga0 | exact EV.ga1 | exact EV.ga2 | exact EV.ga3 | exact EV.ga4 | exact EV.ga5 | exact EV.ga6 | exact EV.ga7 | exact EV.ga8 | exact EV.ga9 | exact EV.ga10 | exact EV.ga11 | exact EV.ga12 | exact EV.ga13 | exact EV.ga14 | exact EV.ga15 | assumption | rfl)
local macro_rules | `(tactic| walk_at "sz") => `(tactic| first | exact trivial | (with_reducible assumption) | omega | ((with_reducible refine szR ?_); exact rfl) | ((with_reducible refine szk' ?_); omega) | ((with_reducible refine szl ?_); omega) | exact szlt rfl | rfl | exact ⟨rfl, by assumption⟩ | exact ⟨rfl, rfl⟩ | exact ⟨_, rfl⟩ | ((with_reducible refine szk' ?_); simp only [List.length_cons, List.length_nil, List.length_append, List.length_map]; omega) | (unfold CMul; omega) | (unfold CDiv; omega) | (unfold CPow; exact ⟨by omega, by omega, by omega⟩) | (constructor; · omega; · omega))
local macro_rules | `(tactic| walk_at "val") => `(tactic| first | assumption | exact rfl)
local macro_rules | `(tactic| walk_at "ty") => `(tactic| first | assumption | exact rfl)
local macro_rules | `(tactic| walk_at "bt") => `(tactic| first | exact rfl | assumption)
local macro_rules | `(tactic| walk_at "n") => `(tactic| refine st_norm (by simp only [List.set_cons_succ, List.set_cons_zero]; rfl) ?_)
local macro_rules | `(tactic| walk_at "wh") => `(tactic| with_reducible conv => whnf)
local macro_rules | `(tactic| walk_at "call") => `(tactic| fail)
local macro_rules | `(tactic| walk_at "go1") => `(tactic| first
  | ((with_reducible apply go_var); (· exact rfl))
  | ((with_reducible apply go_varF); (· exact rfl); (· walk_at "ow"))
  | ((with_reducible apply go_set); (· (simp only [wipeD, List.map_cons, List.map_nil, List.set_cons_succ, List.set_cons_zero]; rfl)))
  | ((with_reducible apply go_fld); (· walk_at "fd"))
  | ((with_reducible apply go_fldH); (· walk_at "ow"); (· walk_at "fd"))
  | ((with_reducible apply go_ixT); (· walk_at "ix"))
  | ((with_reducible apply go_ixL); (· walk_at "ix"))
  | ((with_reducible apply go_ixH); (· walk_at "ow"); (· walk_at "ix"))
  | ((with_reducible apply go_bcT); (· walk_at "bt"))
  | ((with_reducible apply go_bcF); (· walk_at "bt"))
  | ((with_reducible apply go_methH); (· walk_at "ow"); (· walk_at "fd"))
  | ((with_reducible apply And.intro); (· walk_at "sz"))
  | ((with_reducible apply go_lm); (· walk_at "ow"))
  | ((with_reducible apply go_lm2); (· walk_at "ow"))
  | ((with_reducible apply go_app); (· walk_at "sz"))
  | ((with_reducible apply go_ext); (· walk_at "sz"))
  | ((with_reducible apply go_setF); (· walk_at "ow"))
  | ((with_reducible apply go_frz); (· walk_at "ow"))
  | ((with_reducible apply go_atK); (· walk_at "val"))
  | ((with_reducible apply go_atS); (· walk_at "val"))
  | ((with_reducible apply go_atI); (· walk_at "val"))
  | ((with_reducible apply go_atHK); (· walk_at "ow"); (· walk_at "val"))
  | ((with_reducible apply go_atHS); (· walk_at "ow"); (· walk_at "val"))
  | ((with_reducible apply go_dputS); (· walk_at "ow"); (· walk_at "sz"))
  | ((with_reducible apply go_dputK); (· walk_at "ow"); (· walk_at "sz"))
  | (with_reducible apply go_eqI)
  | (with_reducible apply go_eqS)
  | (with_reducible apply go_eqB)
  | (with_reducible apply go_neg)
  | (with_reducible apply go_lenL)
  | (with_reducible apply go_lenT)
  | ((with_reducible apply go_lenS); (· walk_at "sz"))
  | ((with_reducible apply go_lenH); (· walk_at "ow"))
  | (with_reducible apply go_tupL)
  | (with_reducible apply go_tupT)
  | ((with_reducible apply go_tupH); (· walk_at "ow"))
  | (with_reducible apply go_listL)
  | (with_reducible apply go_listT)
  | ((with_reducible apply go_listH); (· walk_at "ow"))
  | (with_reducible apply go_all)
  | (with_reducible apply go_any)
  | ((with_reducible apply go_isi); (· exact rfl); (· walk_at "ty"); (· walk_at "val"))
  | ((with_reducible apply go_inS); (· exact rfl))
  | ((with_reducible apply go_inSL); (· exact rfl))
  | ((with_reducible apply go_sortS); (· walk_at "sz"))
  | (with_reducible apply go_own)
  | (with_reducible apply go_pnil)
  | (with_reducible apply go_pcons)
  | ((with_reducible apply go_lcNil); (· exact trivial))
  | (with_reducible apply go_lcCons)
  | (with_reducible apply go_min2)
  | walk_at "call")
local macro_rules | `(tactic| walk_at "go") => `(tactic| (walk_at "wh"; repeat (walk_at "go1"; walk_at "wh")))
local macro_rules | `(tactic| walk_at "all") => `(tactic| (walk_at "wh"; repeat ((first | walk_at "go1" | (with_reducible refine go_st fun _ _ => ?_) | (with_reducible apply goN; (· assumption))); walk_at "wh")))
def linesS : DSp := fun ds O Q _ => ∃ (cs rs : List D) (i : Int), ds = [.tup [.lst cs, .lst rs, .int i]] ∧ PgOk cs rs i ∧ Q (.lst ((pageL cs rs i).map D.str)) O
theorem pre_eq (a b : Str) (h : a = b ++ " ") (x : Str) : a ++ x = Txt.join " " [b, x] := by
  rw [show Txt.join " " [b, x] = Str.join " " [b, x] from StrLaws.glued_eq_join " " _, h]
  rfl
section
variable {P : Program} {w : World} {K : PySem.W.Frag} {mg : Str → Option Value} {base : Heap}
theorem ok_reader_lines {f : Addr} {fd : FuncData} (F : Fun K "_law_reader_lines" "_law_reader_lines" s_reader_lines f fd) (m_str : mg "str" = none) :
    FnOk P w K mg base CX0 1 f fd ["_law_plan_here"] (spD K linesS) := by
  refine fn_pure F sc_reader_lines (fun ds O Q E h => ?_) (fun cdv A outer s H E hr =>
    (d_scons (d_set (i := 1) sc_reader_lines.nd rfl (.inl rfl) (d_op od_add (d_lst (d_cons (d_op od_add d_str (d_callTy cd_str rfl m_str boot_str (d_cons (d_ix (d_var (i := 0) rfl (.inl rfl) (by decide) (by decide)) d_int (fun _ _ => rfl)) d_nil rfl) (by decide) (by decide) rfl rfl)) d_nil rfl)) (d_lc rfl sc_reader_lines.nd (d_iter (d_ix (d_var (i := 0) rfl (.inl rfl) (by decide) (by decide)) d_int (fun _ _ => rfl))) (blkOk_by (own := [("_law_wide", 2)]) (N := N_reader_lines) (sc := defScope s_reader_lines) (by decide +kernel)) (fun _ _ _ _ _ => (dg_name (i := 2) sc_reader_lines.nd rfl (.inl rfl) (.inr rfl))) (fun _ _ _ _ _ => d_ifs0) (fun _ _ _ _ _ => (d_op od_add d_str (d_callTy cd_str rfl m_str boot_str (d_cons (d_var (i := 2) rfl (.inl rfl) (by decide) (by decide)) d_nil rfl) (by decide) (by decide) rfl rfl))) (by decide +kernel) (fun _ => rfl))) rfl (.inl rfl))
      (d_sone (d_ret (d_op od_add (d_var (i := 1) rfl (.inl rfl) (by decide) (by decide)) (d_lc rfl sc_reader_lines.nd (d_iter (d_ix (d_var (i := 0) rfl (.inl rfl) (by decide) (by decide)) d_int (fun _ _ => rfl))) (blkOk_by (own := [("_law_step_here", 3)]) (N := N_reader_lines) (sc := defScope s_reader_lines) (by decide +kernel)) (fun _ _ _ _ _ => (dg_name (i := 3) sc_reader_lines.nd rfl (.inl rfl) (.inr rfl))) (fun _ _ _ _ _ => d_ifs0) (fun _ _ _ _ _ => (d_join d_str (d_lc rfl sc_reader_lines.nd (d_iter (d_var (i := 3) rfl (.inl rfl) (by decide) (by decide))) (blkOk_by (own := [("_law_item", 4)]) (N := N_reader_lines) (sc := _) (by kernel_rfl)) (fun _ _ _ _ _ => (dg_name (i := 4) sc_reader_lines.nd rfl (.inl rfl) (.inr rfl))) (fun _ _ _ _ _ => d_ifs0) (fun _ _ _ _ _ => (d_callTy cd_str rfl m_str boot_str (d_cons (d_var (i := 4) rfl (.inl rfl) (by decide) (by decide)) d_nil rfl) (by decide) (by decide) rfl rfl)) (by decide +kernel) (fun _ => rfl)) rfl rfl rfl)) (by decide +kernel) (fun _ => rfl))))))) (fun ds O Q E h => ?_) (fun ds O Q E h => h)
  · obtain ⟨_, _, _, rfl, _⟩ := h; rfl
  · obtain ⟨cs, rs, i, rfl, ok, q⟩ := h
    rw [show startD N_reader_lines [.tup [.lst cs, .lst rs, .int i]] = [.sh (.tup [.lst cs, .lst rs, .int i]), .un, .un, .un, .un] from rfl]
    have lc := ok.lc
    have lr := ok.lr
    walk_at "go"
    refine go_strI ok.oi.1 ?_
    have li : (Str.ofString (toString i)).length ≤ 50 := ok.oi.2
    generalize hI : Str.ofString (toString i) = ti at *
    walk_at "go"
    refine ⟨Nat.le_trans (Nat.add_le_add_left li _) (szR rfl), ?_⟩
    walk_at "go"
    change lcW tt1 _ _ _ _ cs [] O _
    refine go_lc (fun c => .str (Txt.join " " ["cell", wtx c])) (fun d hd Qy k => ?_) (by show 0 + cs.length ≤ sizeLine; exact szk' (by omega)) ?_
    · have hw := ok.oc d hd
      have k := k
      obtain ⟨h1, h2⟩ := hw
      walk_at "go"
      cases d with
      | str y =>
        refine go_strS (szk' h1) ?_
        walk_at "go"
        refine ⟨Nat.le_trans (Nat.add_le_add_left h2 _) (szR rfl), ?_⟩
        rw [pre_eq "cell " "cell" (by decide +kernel)]
        exact k
      | int n =>
        refine go_strI h1 ?_
        walk_at "go"
        refine ⟨Nat.le_trans (Nat.add_le_add_left h2 _) (szR rfl), ?_⟩
        rw [pre_eq "cell " "cell" (by decide +kernel)]
        exact k
      | _ => exact h1.elim
    rw [List.nil_append]
    walk_at "go"
    change lcW tt1 _ _ _ _ rs [] O _
    refine go_lc (fun r => .str (Txt.join " " ((itemsR r).map wtx))) (fun d hd Qy k => ?_) (by show 0 + rs.length ≤ sizeLine; exact szk' (by omega)) ?_
    · obtain ⟨ws, rfl, hl, hw⟩ := ok.orr d hd
      have k : Qy (.str (Txt.join " " (ws.map wtx))) O := k
      walk_at "go"
      change lcW tt1 _ _ _ _ ws [] O _
      refine go_lc (fun d => .str (wtx d)) (fun d hd Qy k => ?_) (by show 0 + ws.length ≤ sizeLine; exact szk' (by omega)) ?_
      · have := k
        obtain ⟨h1, h2⟩ := hw d hd
        walk_at "go"
        cases d with
        | str y => exact go_strS (szk' (by show (wtx (.str y)).length ≤ 1000; omega)) this
        | int i => exact go_strI h1 this
        | _ => exact h1.elim
      rw [List.nil_append]
      have e : ws.map (fun d => D.str (wtx d)) = (ws.map wtx).map D.str := by rw [List.map_map]; rfl
      rw [e]
      refine go_joinS ?_ (by decide +kernel) k
      have := sum_le (xs := ws.map wtx) (k := 50) fun y hy => by
        obtain ⟨d, hd, rfl⟩ := List.mem_map.mp hy
        exact (hw d hd).2
      rw [List.length_map] at this ⊢
      omega
    rw [List.nil_append]
    walk_at "go"
    have eL : [D.str ("inputs " ++ ti)] ++ cs.map (fun c => D.str (Txt.join " " ["cell", wtx c])) ++ rs.map (fun r => D.str (Txt.join " " ((itemsR r).map wtx))) = (pageL cs rs i).map D.str := by
      rw [pre_eq "inputs " "inputs" (by decide +kernel), ← hI]
      simp only [pageL, List.map_cons, List.map_append, List.map_map, List.cons_append, List.nil_append, wtx]
      rfl
    rw [eL]
    exact q
end
end LW
set_option Elab.async false
set_option linter.all false
set_option maxRecDepth 100000
set_option maxHeartbeats 4000000
set_option pp.maxSteps 400
namespace LW
open PySem PySem.Spec PyProof.Rows L2 EV PySem.XO PySem.W LamX
abbrev s_all_got : Stmt := topS 39
abbrev N_all_got : List Str := ["_law_asks", "_law_ask"]
theorem sc_all_got : FnScope N_all_got ["_law_asks"] (defScope s_all_got) := ⟨rfl, rfl, rfl, by decide +kernel, rfl, by decide +kernel, by decide +kernel⟩
def allG (K : Frag) (R : LR) : List D → List D → Ow → QD → Prop
  | [], acc, O, Q => Q (.lst acc) O
  | d :: ds, acc, O, Q => ∃ l m, d = .lam l ∧ R l m ∧ acc.length < sizeLine ∧ m O (fun y O1 => allG K R ds (acc ++ [.tup [.str "", y]]) O1 Q) (fun x O1 => gotE K x fun r => allG K R ds (acc ++ [r]) O1 Q)
def allS (K : Frag) (R : LR) : DSp := fun ds O Q _ => ∃ xs, ds = [.lst xs] ∧ allG K R xs [] O Q
section
variable {P : Program} {w : World} {K : PySem.W.Frag} {mg : Str → Option Value} {base : Heap}
theorem gotE_mo {x : Xc} {Q Q' : D → Prop} (h : ∀ d, Q d → Q' d) (z : gotE K x Q) : gotE K x Q' := by
  obtain ⟨c, r, a, b, d, e, f, g⟩ := z
  exact ⟨c, r, a, b, d, e, f, h _ g⟩
theorem ok_all_got {f fG : Addr} {fd fdG : FuncData} {j : Nat} (F : Fun K "_law_all_got" "_law_all_got" s_all_got f fd) (G_got : FnL P w K mg base j (j + 2) fG fdG ["_law_ask"] (gotS K)) (T_got : Gf K mg "_law_got" fG fdG ["_law_ask"]) : FnL P w K mg base j (j + 3) f fd ["_law_asks"] (allS K) := by
  intro B R hR
  have G_got' := G_got B R hR
  refine fn_at F sc_all_got (fun ds O Q E h => ?_) (fun cdv A outer s H E hr =>
    (d_sone (d_ret (d_lc rfl sc_all_got.nd (d_iter (d_var (i := 0) rfl (.inl rfl) (by decide) (by decide))) (blkOk_by (own := [("_law_ask", 1)]) (N := N_all_got) (sc := defScope s_all_got) (by decide +kernel)) (fun _ _ _ _ _ => (dg_name (i := 1) sc_all_got.nd rfl (.inl rfl) (.inr rfl))) (fun _ _ _ _ _ => d_ifs0) (fun _ _ _ _ _ => (d_callP G_got' hr rfl T_got.m T_got.k T_got.b (fun _ => pass0A) (d_cons (d_var (i := 1) rfl (.inl rfl) (by decide) (by decide)) d_nil rfl) (by decide) rfl rfl)) (by decide +kernel) (fun _ => rfl))))) (fun ds O Q E h => ?_) (fun ds O Q E h => h)
  · obtain ⟨xs, rfl, _⟩ := h; rfl
  · obtain ⟨xs, rfl, h⟩ := h
    rw [show startD N_all_got [.lst xs] = [.sh (.lst xs), .un] from rfl]
    show lcW tt1 (dgName 1) dYes (dCall (gotS K R) (dCons (dVar 1) dNil)) [.sh (.lst xs), .un] xs [] O fun l O2 => Q (.lst l) O2
    have key : ∀ (ys acc : List D) (O : Ow), allG K R ys acc O Q → lcW tt1 (dgName 1) dYes (dCall (gotS K R) (dCons (dVar 1) dNil)) [.sh (.lst xs), .un] ys acc O fun l O2 => Q (.lst l) O2 := by
      intro ys
      induction ys with
      | nil => intro acc O h; exact ⟨trivial, h⟩
      | cons y ys ih =>
        intro acc O ⟨l, m, e, rl, hl, h⟩
        subst e
        refine ⟨trivial, spM.of ⟨l, m, rfl, rl, (hR l m rl).2 _ _ _ _ _ (fun d O1 z => ⟨hl, ih _ _ z⟩) (fun x O1 z => gotE_mo (fun d z => ⟨hl, ih _ _ z⟩) z) h⟩⟩
    exact key xs [] O h
end
end LW
set_option Elab.async false
set_option linter.all false
set_option maxRecDepth 100000
set_option maxHeartbeats 8000000
set_option pp.maxSteps 120
namespace LW
open PySem PySem.Spec PyProof.Rows L2 EV PySem.XO PySem.W LamX
abbrev s_law : Stmt := topS 44
abbrev N_law : List Str := ["_law_script", "_law_box_here", "_law_turn", "_law_pairs", "_law_text", "_law_line", "_law_words_here", "_law_plan_here", "_law_lines", "_law_first", "_law_at", "_law_bent", "_law_c", "_law_j", "_law_wrong", "_law_spot", "_law_told", "_law_got_here", "_law_asks"]
theorem sc_law : FnScope N_law ["_law_script"] (defScope s_law) := ⟨rfl, rfl, rfl, by decide +kernel, rfl, by decide +kernel, by decide +kernel⟩
local macro_rules | `(tactic| walk_at "fd") => `(tactic| first | assumption | rfl)
local macro_rules | `(tactic| walk_at "ow") => `(tactic| first | assumption | exact oset_self | (rw [oset_ne (by assumption)]; walk_at "ow") | (rw [oset_ne (Ne.symm (by assumption))]; walk_at "ow"))
local macro_rules | `(tactic| walk_at "ix") => `(tactic| first | exact EV.ga0 | exact EV.ga1 | exact EV.ga2 | exact EV.ga3 | exact EV.ga4 | exact EV.ga5 | exact EV.ga6 | exact EV.ga7 | exact EV.ga8 | exact EV.ga9 | exact EV.ga10 | exact EV.ga11 | exact EV.ga12 | exact EV.ga13 | exact EV.ga14 | exact EV.ga15 | assumption | rfl)
local macro_rules | `(tactic| walk_at "sz") => `(tactic| first | exact trivial | (with_reducible assumption) | omega | ((with_reducible refine szR ?_); exact rfl) | ((with_reducible refine szk' ?_); omega) | ((with_reducible refine szl ?_); omega) | exact szlt rfl | rfl | exact ⟨rfl, by assumption⟩ | exact ⟨rfl, rfl⟩ | exact ⟨_, rfl⟩ | ((with_reducible refine szk' ?_); simp only [List.length_cons, List.length_nil, List.length_append, List.length_map]; omega) | (unfold CMul; omega) | (unfold CDiv; omega) | (unfold CPow; exact ⟨by omega, by omega, by omega⟩) | (constructor; · omega; · omega))
local macro_rules | `(tactic| walk_at "val") => `(tactic| first | assumption | exact rfl)
local macro_rules | `(tactic| walk_at "ty") => `(tactic| first | assumption | exact rfl)
local macro_rules | `(tactic| walk_at "bt") => `(tactic| first | exact rfl | assumption)
local macro_rules | `(tactic| walk_at "n") => `(tactic| refine st_norm (by simp only [List.set_cons_succ, List.set_cons_zero]; rfl) ?_)
local macro_rules | `(tactic| walk_at "wh") => `(tactic| with_reducible conv => whnf)
local macro_rules | `(tactic| walk_at "call") => `(tactic| fail)
local macro_rules | `(tactic| walk_at "go1") => `(tactic| first
  | ((with_reducible apply go_var); (· exact rfl))
  | ((with_reducible apply go_varF); (· exact rfl); (· walk_at "ow"))
  | ((with_reducible apply go_set); (· (simp only [wipeD, List.map_cons, List.map_nil, List.set_cons_succ, List.set_cons_zero]; rfl)))
  | ((with_reducible apply go_fld); (· walk_at "fd"))
  | ((with_reducible apply go_fldH); (· walk_at "ow"); (· walk_at "fd"))
  | ((with_reducible apply go_ixT); (· walk_at "ix"))
  | ((with_reducible apply go_ixL); (· walk_at "ix"))
  | ((with_reducible apply go_ixH); (· walk_at "ow"); (· walk_at "ix"))
  | ((with_reducible apply go_bcT); (· walk_at "bt"))
  | ((with_reducible apply go_bcF); (· walk_at "bt"))
  | ((with_reducible apply go_methH); (· walk_at "ow"); (· walk_at "fd"))
  | ((with_reducible apply And.intro); (· walk_at "sz"))
  | ((with_reducible apply go_lm); (· walk_at "ow"))
  | ((with_reducible apply go_lm2); (· walk_at "ow"))
  | ((with_reducible apply go_app); (· walk_at "sz"))
  | ((with_reducible apply go_ext); (· walk_at "sz"))
  | ((with_reducible apply go_setF); (· walk_at "ow"))
  | ((with_reducible apply go_frz); (· walk_at "ow"))
  | ((with_reducible apply go_atK); (· walk_at "val"))
  | ((with_reducible apply go_atS); (· walk_at "val"))
  | ((with_reducible apply go_atI); (· walk_at "val"))
  | ((with_reducible apply go_atHK); (· walk_at "ow"); (· walk_at "val"))
  | ((with_reducible apply go_atHS); (· walk_at "ow"); (· walk_at "val"))
  | ((with_reducible apply go_dputS); (· walk_at "ow"); (· walk_at "sz"))
  | ((with_reducible apply go_dputK); (· walk_at "ow"); (· walk_at "sz"))
  | (with_reducible apply go_eqI)
  | (with_reducible apply go_eqS)
  | (with_reducible apply go_eqB)
  | (with_reducible apply go_neg)
  | (with_reducible apply go_lenL)
  | (with_reducible apply go_lenT)
  | ((with_reducible apply go_lenS); (· walk_at "sz"))
  | ((with_reducible apply go_lenH); (· walk_at "ow"))
  | (with_reducible apply go_tupL)
  | (with_reducible apply go_tupT)
  | ((with_reducible apply go_tupH); (· walk_at "ow"))
  | (with_reducible apply go_listL)
  | (with_reducible apply go_listT)
  | ((with_reducible apply go_listH); (· walk_at "ow"))
  | (with_reducible apply go_all)
  | (with_reducible apply go_any)
  | ((with_reducible apply go_isi); (· exact rfl); (· walk_at "ty"); (· walk_at "val"))
  | ((with_reducible apply go_inS); (· exact rfl))
  | ((with_reducible apply go_inSL); (· exact rfl))
  | ((with_reducible apply go_sortS); (· walk_at "sz"))
  | (with_reducible apply go_own)
  | (with_reducible apply go_pnil)
  | (with_reducible apply go_pcons)
  | ((with_reducible apply go_lcNil); (· exact trivial))
  | (with_reducible apply go_lcCons)
  | (with_reducible apply go_min2)
  | walk_at "call")
local macro_rules | `(tactic| walk_at "go") => `(tactic| (walk_at "wh"; repeat (walk_at "go1"; walk_at "wh")))
local macro_rules | `(tactic| walk_at "all") => `(tactic| (walk_at "wh"; repeat ((first | walk_at "go1" | (with_reducible refine go_st fun _ _ => ?_) | (with_reducible apply goN; (· assumption))); walk_at "wh")))
abbrev noE : Expr := .Constant .none 0 ⟨0, 0, 0, 0⟩
abbrev noS : Stmt := .Pass ⟨0, 0, 0, 0⟩
abbrev stAt (k : Nat) : Stmt := match (defBody s_law).getD 1 noS with
  | .For _ _ b _ _ => b.getD k noS
  | _ => noS
abbrev rhsA : Stmt → Expr
  | .Assign _ e _ => e
  | _ => noE
abbrev asksE : Expr := rhsA (stAt 12)
theorem call_words4 {Q : QD} {E : QX} {O : Ow} (h : ∀ w0 w1 w2 w3 : Str, (∀ w ∈ [w0, w1, w2, w3], isNm (.str w) = true) → [w0, w1, w2, w3].Nodup → Q (.lst [.str w0, .str w1, .str w2, .str w3]) O) : spM wordsS [.int 4] O Q E :=
  spM.of ⟨4, rfl, by decide, fun ws hl hn hd => match ws, hl, hn, hd with
    | [w0, w1, w2, w3], _, hn, hd => h w0 w1 w2 w3 hn hd⟩
theorem call_sameR {n : Nat} {a : D} {O : Ow} {Q : QD} {E : QX} (p : Plain n a) (q : Q (.bl true) O) : spM (sameS n) [a, a] O Q E := spM.of ⟨a, a, rfl, p, p, by rw [same_refl n a p]; exact q⟩
theorem allG_nil {K : PySem.W.Frag} {R : LR} {acc : List D} {O : Ow} {Q : QD} (h : Q (.lst acc) O) : allG K R [] acc O Q := h
theorem lgN {n : Nat} (h : n ≤ 10000) : ((n : Nat) : Int).natAbs.log2 < 1920 := ((nbd_tx (d := .int n) ⟨by omega, by omega⟩).2).1
theorem len_cat (a b : Str) : (a ++ b).length = a.length + b.length := Array.size_append
theorem plain_it {n : Nat} {y : Str} {k : Int} : Plain (n + 1) (.tup [.str y, .int k]) := ⟨le_sz rfl, fun d hd => by
  simp only [List.mem_cons, List.not_mem_nil, or_false] at hd
  rcases hd with rfl | rfl
  · cases n <;> trivial
  · cases n <;> trivial⟩
section
variable {w : World} {K : PySem.W.Frag} {mg : Str → Option Value} {base : Heap}
theorem ok_law {fB fP fO fW fL fLn fSp fS fG fA fRd C PT : Addr} {fd fdB fdP fdO fdW fdL fdLn fdSp fdS fdG fdA fdRd : FuncData} (F : Fun K "law" "law" s_law (He.fAd K ("law", none)) fd)
    (G_box : FnOk Pr w K mg base CX0 1 fB fdB ["_law_script"] (spBox K)) (T_box : Gf K mg "_law_box" fB fdB ["_law_script"])
    (G_pull : FnOk Pr w K mg base CX0 1 fP fdP ["_law_box_here", "_law_many"] (spB K pullS)) (T_pull : Gf K mg "_law_pull" fP fdP ["_law_box_here", "_law_many"])
    (G_of : FnOk Pr w K mg base CX0 2 fO fdO ["_law_box_here", "_law_some"] (spB K ofS)) (T_of : Gf K mg "_law_of" fO fdO ["_law_box_here", "_law_some"])
    (G_words : FnOk Pr w K mg base CX0 3 fW fdW ["_law_box_here", "_law_many"] (spB K wordsS)) (T_words : Gf K mg "_law_words" fW fdW ["_law_box_here", "_law_many"])
    (G_plan : FnOk Pr w K mg base CX0 4 fL fdL ["_law_box_here", "_law_words_here", "_law_cap"] (spB K planS)) (T_plan : Gf K mg "_law_plan" fL fdL ["_law_box_here", "_law_words_here", "_law_cap"])
    (G_reader_lines : FnOk Pr w K mg base CX0 1 fLn fdLn ["_law_plan_here"] (spD K linesS)) (T_reader_lines : Gf K mg "_law_reader_lines" fLn fdLn ["_law_plan_here"])
    (G_spoilt : FnOk Pr w K mg base CX0 4 fSp fdSp ["_law_box_here", "_law_line"] (spB K spoiltS)) (T_spoilt : Gf K mg "_law_spoilt" fSp fdSp ["_law_box_here", "_law_line"])
    (G_same : FnOk Pr w K mg base CX0 5 fS fdS ["_law_found", "_law_due"] (spD K (sameS 3))) (T_same : Gf K mg "_law_same" fS fdS ["_law_found", "_law_due"])
    (G_got : FnL Pr w K mg base 9 11 fG fdG ["_law_ask"] (gotS K)) (T_got : Gf K mg "_law_got" fG fdG ["_law_ask"])
    (G_all_got : FnL Pr w K mg base 9 12 fA fdA ["_law_asks"] (allS K)) (T_all_got : Gf K mg "_law_all_got" fA fdA ["_law_asks"])
    (TB : TabB base mg (He.codeOf K ("law", none)) PT) (M_Reader : mg "Reader" = some (.ref C))
    (G_Reader_read : FnOk Pr w K mg base (L2.CX Pr w) 6 fRd fdRd ["text"] (spD K (readGR (He.ga K) C))) (SM_Reader_read : SMet K C "read" fRd) (B_Reader_read : Binds K fdRd ["text"] [])
    (m_range : mg "range" = none) (m_len : mg "len" = none) (m_str : mg "str" = none) :
    FnOk Pr w K mg base CX0 14 (He.fAd K ("law", none)) fd ["_law_script"] (spLaw K [(PT, lamQ "law")]) := by
  refine Fun.okC F sc_law (fun vs H Q E h => ?_) (fun A outer s H vs Q E hr h => ?_)
  · obtain ⟨a, ns, rfl, _⟩ := h; rfl
  · obtain ⟨a, ns, rfl, hS, hT, q⟩ := h
    have D1 : ∀ (b l : Addr), DPSs (cxOf CX0 Pr w K mg base N_law "law" (defScope s_law) (He.fAd K ("law", none)) (.ref (He.codeOf K ("law", none))) A outer s H E).nox ⟨boB b l [(PT, lamQ "law")], fun _ _ _ _ => False⟩ (defBody s_law).tail _ := fun b l => by
      have LA := lam_at (P := Pr) (w := w) (K := K) (mg := mg) (base := base) (N := N_law) (sc := defScope s_law) (q := "law") (f := He.fAd K ("law", none)) (A := A) (outer := outer) (s := s) (H := H) (E := E) (b := b) (l := l) (W := fun _ _ _ _ => False) TB
      exact (d_scons (d_for PassesOwn.never rfl (d_rng1 rfl m_range (d_cons d_int d_nil rfl) rfl) (dg_name (i := 2) sc_law.nd rfl (.inl rfl) (.inl rfl)) (d_scons (d_set (i := 6) sc_law.nd rfl (.inl rfl) (d_callX G_words rfl (hr.mono (by decide)) rfl T_words.m T_words.k T_words.b (fun _ => pass0A) (d_cons (d_var (i := 1) rfl (.inl rfl) (by decide) (by decide)) (d_cons d_int d_nil rfl) rfl) (by decide) rfl rfl) rfl (.inl rfl))
      (d_scons (d_set (i := 7) sc_law.nd rfl (.inl rfl) (d_callX G_plan rfl (hr.mono (by decide)) rfl T_plan.m T_plan.k T_plan.b (fun _ => pass0A) (d_cons (d_var (i := 1) rfl (.inl rfl) (by decide) (by decide)) (d_cons (d_var (i := 6) rfl (.inl rfl) (by decide) (by decide)) (d_cons d_int d_nil rfl) rfl) rfl) (by decide) rfl rfl) rfl (.inl rfl))
      (d_scons (d_asg (d_tup (d_cons (d_call G_reader_lines (hr.mono (by decide)) rfl T_reader_lines.m T_reader_lines.k T_reader_lines.b (fun _ => pass0A) (d_cons (d_var (i := 7) rfl (.inl rfl) (by decide) (by decide)) d_nil rfl) (by decide) rfl rfl) (d_cons (d_op od_add d_int (d_callB cd_len rfl m_len boot_len (d_cons (d_ix (d_var (i := 7) rfl (.inl rfl) (by decide) (by decide)) d_int (fun _ _ => rfl)) d_nil rfl) (by decide) (by decide) rfl rfl)) d_nil rfl) rfl)) (dg_tup (n := 2) rfl (dgs_cons (dg_name (i := 8) sc_law.nd rfl (.inr rfl) (.inl rfl)) (dgs_cons (dg_name (i := 9) sc_law.nd rfl (.inr rfl) (.inl rfl)) dgs_nil rfl) rfl) rfl rfl) rfl rfl rfl)
      (d_scons (d_set (i := 10) sc_law.nd rfl (.inr rfl) (d_callX G_pull rfl (hr.mono (by decide)) rfl T_pull.m T_pull.k T_pull.b (fun _ => pass0A) (d_cons (d_var (i := 1) rfl (.inl rfl) (by decide) (by decide)) (d_cons (d_callB cd_len rfl m_len boot_len (d_cons (d_var (i := 8) rfl (.inr (.inl rfl)) (by decide) (by decide)) d_nil rfl) (by decide) (by decide) rfl rfl) d_nil rfl) rfl) (by decide) rfl rfl) rfl (.inl rfl))
      (d_scons (d_set (i := 11) sc_law.nd rfl (.inr rfl) (d_callX G_spoilt rfl (hr.mono (by decide)) rfl T_spoilt.m T_spoilt.k T_spoilt.b (fun _ => pass0A) (d_cons (d_var (i := 1) rfl (.inl rfl) (by decide) (by decide)) (d_cons (d_ix (d_var (i := 8) rfl (.inr (.inl rfl)) (by decide) (by decide)) (d_var (i := 10) rfl (.inr (.inl rfl)) (by decide) (by decide)) (fun _ _ => rfl)) d_nil rfl) rfl) (by decide) rfl rfl) rfl (.inl rfl))
      (d_scons (d_ifS (d_tnot (d_test (d_call G_same (hr.mono (by decide)) rfl T_same.m T_same.k T_same.b (fun _ => pass0A) (d_cons (d_callL1 G_got (hr.mono (by decide)) (fun _ => rfl) (hr.mono (by decide)) rfl T_got.m T_got.k T_got.b LA (lamW_by (N := N_law) (sc := defScope s_law) (by decide +kernel)) rfl (fun _ _ _ _ _ _ => rfl) (fun A outer s H E f c' hr => (d_smeth (pl := _) (fun _ => rfl) (d_cls rfl M_Reader (by decide)) SM_Reader_read G_Reader_read (hr.mono (by decide)) B_Reader_read lam_pass (d_cons (d_join d_str (d_op od_add (d_op od_add (d_sl (d_var (i := 8) rfl (.inr (.inr rfl)) (by decide) (by decide)) d_nopart (d_part (d_var (i := 10) rfl (.inr (.inr rfl)) (by decide) (by decide)))) (d_lst (d_cons (d_var (i := 11) rfl (.inr (.inr rfl)) (by decide) (by decide)) d_nil rfl))) (d_sl (d_var (i := 8) rfl (.inr (.inr rfl)) (by decide) (by decide)) (d_part (d_op od_add (d_var (i := 10) rfl (.inr (.inr rfl)) (by decide) (by decide)) d_int)) d_nopart)) rfl rfl rfl) d_nil rfl) rfl rfl rfl)) (by decide) rfl rfl) (d_cons (d_tup (d_cons d_str (d_cons (d_var (i := 10) rfl (.inr (.inl rfl)) (by decide) (by decide)) d_nil rfl) rfl)) d_nil rfl) rfl) (by decide) rfl rfl) (by intro _; rfl))) (d_sone (d_ret d_bl)) d_snil)
      (d_scons (d_par (i := 12) (j := 13) rfl sc_law.nd rfl rfl (by decide) rfl rfl (d_cons (d_callTy cd_str rfl m_str boot_str (d_cons (d_callB cd_len rfl m_len boot_len (d_cons (d_ix (d_var (i := 7) rfl (.inl rfl) (by decide) (by decide)) d_int (fun _ _ => rfl)) d_nil rfl) (by decide) (by decide) rfl rfl) d_nil rfl) (by decide) (by decide) rfl rfl) (d_cons (d_callTy cd_str rfl m_str boot_str (d_cons (d_op od_add (d_callB cd_len rfl m_len boot_len (d_cons (d_ix (d_var (i := 7) rfl (.inl rfl) (by decide) (by decide)) d_int (fun _ _ => rfl)) d_nil rfl) (by decide) (by decide) rfl rfl) d_int) d_nil rfl) (by decide) (by decide) rfl rfl) d_nil rfl) rfl) rfl rfl)
      (d_scons (d_set (i := 14) sc_law.nd rfl (.inl rfl) (d_callX G_of rfl (hr.mono (by decide)) rfl T_of.m T_of.k T_of.b (fun _ => pass0A) (d_cons (d_var (i := 1) rfl (.inl rfl) (by decide) (by decide)) (d_cons (d_lst (d_cons (d_op od_add d_str (d_var (i := 12) rfl (.inl rfl) (by decide) (by decide))) (d_cons (d_op od_add d_str (d_var (i := 13) rfl (.inl rfl) (by decide) (by decide))) (d_cons (d_op od_add (d_op od_add d_str (d_var (i := 12) rfl (.inl rfl) (by decide) (by decide))) d_str) (d_cons (d_op od_add d_str (d_var (i := 13) rfl (.inl rfl) (by decide) (by decide))) (d_cons d_str (d_cons d_str (d_cons d_str (d_cons d_str (d_cons d_str (d_cons d_str (d_cons (d_op od_add (d_op od_add d_str (d_ix (d_var (i := 6) rfl (.inl rfl) (by decide) (by decide)) d_int (fun _ _ => rfl))) d_str) (d_cons d_str (d_cons d_str (d_cons d_str (d_cons d_str (d_cons d_str (d_cons d_str d_nil rfl) rfl) rfl) rfl) rfl) rfl) rfl) rfl) rfl) rfl) rfl) rfl) rfl) rfl) rfl) rfl) rfl)) d_nil rfl) rfl) (by decide) rfl rfl) rfl (.inl rfl))
      (d_scons (d_set (i := 15) sc_law.nd rfl (.inl rfl) (d_op od_add (d_var (i := 9) rfl (.inr (.inl rfl)) (by decide) (by decide)) (d_callX G_pull rfl (hr.mono (by decide)) rfl T_pull.m T_pull.k T_pull.b (fun _ => pass0A) (d_cons (d_var (i := 1) rfl (.inl rfl) (by decide) (by decide)) (d_cons (d_callB cd_len rfl m_len boot_len (d_cons (d_ix (d_var (i := 7) rfl (.inl rfl) (by decide) (by decide)) d_int (fun _ _ => rfl)) d_nil rfl) (by decide) (by decide) rfl rfl) d_nil rfl) rfl) (by decide) rfl rfl)) rfl (.inl rfl))
      (d_scons (d_set (i := 16) sc_law.nd rfl (.inr rfl) (d_join d_str (d_op od_add (d_op od_add (d_sl (d_var (i := 8) rfl (.inr (.inl rfl)) (by decide) (by decide)) d_nopart (d_part (d_var (i := 15) rfl (.inl rfl) (by decide) (by decide)))) (d_lst (d_cons (d_var (i := 14) rfl (.inl rfl) (by decide) (by decide)) d_nil rfl))) (d_sl (d_var (i := 8) rfl (.inr (.inl rfl)) (by decide) (by decide)) (d_part (d_var (i := 15) rfl (.inl rfl) (by decide) (by decide))) d_nopart)) rfl rfl rfl) rfl (.inl rfl))
      (d_scons (d_set (i := 17) sc_law.nd rfl (.inl rfl) (d_callL1 G_got (hr.mono (by decide)) (fun _ => rfl) (hr.mono (by decide)) rfl T_got.m T_got.k T_got.b LA (lamW_by (N := N_law) (sc := defScope s_law) (by decide +kernel)) rfl (fun _ _ _ _ _ _ => rfl) (fun A outer s H E f c' hr => (d_smeth (pl := _) (fun _ => rfl) (d_cls rfl M_Reader (by decide)) SM_Reader_read G_Reader_read (hr.mono (by decide)) B_Reader_read lam_pass (d_cons (d_var (i := 16) rfl (.inr (.inr rfl)) (by decide) (by decide)) d_nil rfl) rfl rfl rfl)) (by decide) rfl rfl) rfl (.inl rfl))
      (d_scons (d_ifS (DPW.pt (d_wand (DPW.pt (d_wor (d_tcmp (od_ne hr.units) (d_var (i := 14) rfl (.inl rfl) (by decide) (by decide)) d_str (nomark _)) (d_or1 (d_tcmp od_gt (d_var (i := 15) rfl (.inl rfl) (by decide) (by decide)) (d_var (i := 9) rfl (.inr (.inl rfl)) (by decide) (by decide)) (nomark _))))) (d_and1 (d_tnot (d_test (d_call G_same (hr.mono (by decide)) rfl T_same.m T_same.k T_same.b (fun _ => pass0A) (d_cons (d_var (i := 17) rfl (.inl rfl) (by decide) (by decide)) (d_cons (d_tup (d_cons d_str (d_cons (d_var (i := 15) rfl (.inl rfl) (by decide) (by decide)) d_nil rfl) rfl)) d_nil rfl) rfl) (by decide) rfl rfl) (by intro _; rfl)))))) (d_sone (d_ret d_bl)) d_snil)
      (d_scons (d_set (i := 18) sc_law.nd rfl (.inl rfl) (d_lst (d_cons (d_lam LA (lamW_by (N := N_law) (sc := defScope s_law) (by decide +kernel)) rfl (fun _ _ _ _ _ _ => rfl)) (d_cons (d_lam1 (u := "_law_u2") LA (lamW_by (N := N_law) (sc := defScope s_law) (by decide +kernel)) rfl rfl rfl (fun _ _ _ _ _ _ _ => ⟨_, rfl, fun _ => rfl⟩)) (d_cons (d_lam1 (u := "_law_u3") LA (lamW_by (N := N_law) (sc := defScope s_law) (by decide +kernel)) rfl rfl rfl (fun _ _ _ _ _ _ _ => ⟨_, rfl, fun _ => rfl⟩)) d_nil rfl) rfl) rfl)) rfl (.inl rfl))
      (d_sone (d_ifS (d_tnot (d_test (d_call G_same (hr.mono (by decide)) rfl T_same.m T_same.k T_same.b (fun _ => pass0A) (d_cons (d_callL G_all_got (lams_or (lams_one (params := (lamE asksE 0).1) (body := (lamE asksE 0).2.1) (scope := (lamE asksE 0).2.2) (hr.mono (by decide)) (lamW_by (N := N_law) (sc := defScope s_law) (by decide +kernel)) (fun A outer s H E f c' hr => (d_smeth (pl := _) (fun _ => rfl) (d_cls rfl M_Reader (by decide)) SM_Reader_read G_Reader_read (hr.mono (by decide)) B_Reader_read lam_pass (d_cons (d_op od_add (d_join d_str (d_var (i := 8) rfl (.inr (.inr rfl)) (by decide) (by decide)) rfl rfl rfl) d_str) d_nil rfl) rfl rfl rfl))) (lams_or (lams_one (params := (lamE asksE 1).1) (body := (lamE asksE 1).2.1) (scope := (lamE asksE 1).2.2) (hr.mono (by decide)) (lamW_by (N := N_law) (sc := defScope s_law) (by decide +kernel)) (fun A outer s H E f c' hr => (d_smeth (pl := _) (fun _ => rfl) (d_cls rfl M_Reader (by decide)) SM_Reader_read G_Reader_read (hr.mono (by decide)) B_Reader_read lam_pass (d_cons (d_join d_str (d_op od_add (d_var (i := 8) rfl (.inr (.inr rfl)) (by decide) (by decide)) (d_lst (d_cons d_str d_nil rfl))) rfl rfl rfl) d_nil rfl) rfl rfl rfl))) (lams_one (params := (lamE asksE 2).1) (body := (lamE asksE 2).2.1) (scope := (lamE asksE 2).2.2) (hr.mono (by decide)) (lamW_by (N := N_law) (sc := defScope s_law) (by decide +kernel)) (fun A outer s H E f c' hr => (d_smeth (pl := _) (fun _ => rfl) (d_cls rfl M_Reader (by decide)) SM_Reader_read G_Reader_read (hr.mono (by decide)) B_Reader_read lam_pass (d_cons (d_join d_str (d_sl (d_var (i := 8) rfl (.inr (.inr rfl)) (by decide) (by decide)) d_nopart (d_part (d_var (i := 9) rfl (.inr (.inr rfl)) (by decide) (by decide)))) rfl rfl rfl) d_nil rfl) rfl rfl rfl))))) (fun _ => rfl) (hr.mono (by decide)) rfl T_all_got.m T_all_got.k T_all_got.b (d_cons (d_var (i := 18) rfl (.inl rfl) (by decide) (by decide)) d_nil rfl) (by decide) rfl rfl) (d_cons (d_lst (d_cons (d_tup (d_cons d_str (d_cons (d_callB cd_len rfl m_len boot_len (d_cons (d_var (i := 8) rfl (.inr (.inl rfl)) (by decide) (by decide)) d_nil rfl) (by decide) (by decide) rfl rfl) d_nil rfl) rfl)) (d_cons (d_tup (d_cons d_str (d_cons (d_callB cd_len rfl m_len boot_len (d_cons (d_var (i := 8) rfl (.inr (.inl rfl)) (by decide) (by decide)) d_nil rfl) (by decide) (by decide) rfl rfl) d_nil rfl) rfl)) (d_cons (d_tup (d_cons d_str (d_cons (d_var (i := 9) rfl (.inr (.inl rfl)) (by decide) (by decide)) d_nil rfl) rfl)) d_nil rfl) rfl) rfl)) d_nil rfl) rfl) (by decide) rfl rfl) (by intro _; rfl))) (d_sone (d_ret d_bl)) d_snil))))))))))))))) (fun _ => rfl))
      (d_scons (d_set (i := 3) sc_law.nd rfl (.inl rfl) (d_lst (d_cons (d_tup (d_cons d_str (d_cons d_int d_nil rfl) rfl)) (d_cons (d_tup (d_cons d_str (d_cons d_int d_nil rfl) rfl)) (d_cons (d_tup (d_cons d_str (d_cons d_int d_nil rfl) rfl)) (d_cons (d_tup (d_cons d_str (d_cons d_int d_nil rfl) rfl)) (d_cons (d_tup (d_cons d_str (d_cons d_int d_nil rfl) rfl)) (d_cons (d_tup (d_cons d_str (d_cons d_int d_nil rfl) rfl)) (d_cons (d_tup (d_cons d_str (d_cons d_int d_nil rfl) rfl)) (d_cons (d_tup (d_cons d_str (d_cons d_int d_nil rfl) rfl)) (d_cons (d_tup (d_cons d_str (d_cons d_int d_nil rfl) rfl)) (d_cons (d_tup (d_cons d_str (d_cons d_int d_nil rfl) rfl)) (d_cons (d_tup (d_cons d_str (d_cons d_int d_nil rfl) rfl)) (d_cons (d_tup (d_cons d_str (d_cons d_int d_nil rfl) rfl)) (d_cons (d_tup (d_cons d_str (d_cons d_int d_nil rfl) rfl)) d_nil rfl) rfl) rfl) rfl) rfl) rfl) rfl) rfl) rfl) rfl) rfl) rfl) rfl)) rfl (.inl rfl))
      (d_scons (d_for PassesOwn.never rfl (d_iter (d_var (i := 3) rfl (.inl rfl) (by decide) (by decide))) (dg_tup (n := 2) rfl (dgs_cons (dg_name (i := 4) sc_law.nd rfl (.inr rfl) (.inl rfl)) (dgs_cons (dg_name (i := 5) sc_law.nd rfl (.inl rfl) (.inl rfl)) dgs_nil rfl) rfl) rfl rfl) (d_sone (d_ifS (d_tnot (d_test (d_call G_same (hr.mono (by decide)) rfl T_same.m T_same.k T_same.b (fun _ => pass0A) (d_cons (d_callL1 G_got (hr.mono (by decide)) (fun _ => rfl) (hr.mono (by decide)) rfl T_got.m T_got.k T_got.b LA (lamW_by (N := N_law) (sc := defScope s_law) (by decide +kernel)) rfl (fun _ _ _ _ _ _ => rfl) (fun A outer s H E f c' hr => (d_smeth (pl := _) (fun _ => rfl) (d_cls rfl M_Reader (by decide)) SM_Reader_read G_Reader_read (hr.mono (by decide)) B_Reader_read lam_pass (d_cons (d_var (i := 4) rfl (.inr (.inr rfl)) (by decide) (by decide)) d_nil rfl) rfl rfl rfl)) (by decide) rfl rfl) (d_cons (d_tup (d_cons d_str (d_cons (d_var (i := 5) rfl (.inl rfl) (by decide) (by decide)) d_nil rfl) rfl)) d_nil rfl) rfl) (by decide) rfl rfl) (by intro _; rfl))) (d_sone (d_ret d_bl)) d_snil)) (fun _ => rfl))
      (d_sone (d_ret d_bl)))))
    refine ⟨_, pss_cons (ps_set (i := 1) sc_law.nd rfl (.inl rfl) (pe_call G_box (hr.mono (by decide)) rfl T_box.m T_box.k T_box.b .nil pass0 (pa_cons (pv 0) pa_nil))) (pss_box D1), ?_⟩
    refine ⟨.ref a, rfl, a, ns, rfl, hS, fun b l mm ms H1 sm nb hb hl ne m0 m1 => ⟨b, l, law_read (n := N_law.length - 2) (D1 b l).mo hb hl ne (fun p hp => ?_) m0 m1 q ?_⟩⟩
    · exact sm _ _ (hT p hp)
    rw [show boxed b (N_law.length - 2) = [.un, .sh (.opq (.ref b)), .un, .un, .un, .un, .un, .un, .un, .un, .un, .un, .un, .un, .un, .un, .un, .un, .un] from rfl]
    clear D1 TB
    refine go_st fun N hN => ?_
    walk_at "go"
    refine go_for (rngD 0 8) (fun _ ρ O => O = noO ∧ ∃ s2 s3 s4 s5 s6 s7 s8 s9 s10 s11 s12 s13 s14 s15 s16 s17 s18 : Sl, ρ = [.un, .sh (.opq (.ref b)), s2, s3, s4, s5, s6, s7, s8, s9, s10, s11, s12, s13, s14, s15, s16, s17, s18]) ⟨rfl, _, _, _, _, _, _, _, _, _, _, _, _, _, _, _, _, _, rfl⟩ ?_ ?_
    rotate_left
    · rintro r O ⟨rfl, s2, s3, s4, s5, s6, s7, s8, s9, s10, s11, s12, s13, s14, s15, s16, s17, s18, rfl⟩
      subst hN
      dsimp only
      refine go_st fun N hN => ?_
      walk_at "go"
      subst hN
      refine go_st fun N hN => ?_
      walk_at "go"
      have hmap : [D.tup [D.str ("" : Str), D.int 0], D.tup [D.str ("inputs" : Str), D.int 0], D.tup [D.str ("inputs 01\ncell 0\nend" : Str), D.int 0], D.tup [D.str ("inputs 301" : Str), D.int 0], D.tup [D.str ("inputs 1\nend" : Str), D.int 1], D.tup [D.str ("inputs 1\ncell 2\nend" : Str), D.int 1], D.tup [D.str ("inputs 0\ncell 10001\nend" : Str), D.int 1], D.tup [D.str ("inputs 0" : Str), D.int 1], D.tup [D.str ("inputs 0\nend\njump 7" : Str), D.int 2], D.tup [D.str ("inputs 0\ncell 0\nhas a 0 0\nlink a 0 0 0\nend" : Str), D.int 3], D.tup [D.str ("inputs 0\ncell 2\nread 0\njump 5\nhalt" : Str), D.int 4], D.tup [D.str ("inputs 2\ncell 0" : Str), D.int 2], D.tup [D.str ("inputs 0\ncell -1\nend" : Str), D.int 1]] = told33.map fun z => .tup [.str z.1, .int (z.2 : Nat)] := rfl
      rw [hmap]
      clear hmap
      refine go_for (told33.map fun z => D.tup [.str z.1, .int (z.2 : Nat)]) (fun i ρ O => ∃ s4 s5 : Sl, O = noO ∧ ρ = [.un, .sh (.opq (.ref b)), s2, .sh (.lst (told33.map fun z => D.tup [.str z.1, .int (z.2 : Nat)])), s4, s5, s6, s7, s8, s9, s10, s11, s12, s13, s14, s15, s16, s17, s18]) ⟨_, _, rfl, rfl⟩ ?_ ?_
      · rintro i1 d1 hd1 ρ O ⟨s4, s5, rfl, rfl⟩ N3 hN3
        subst hN
        obtain ⟨z, hz, rfl⟩ := List.mem_map.mp (List.mem_of_getElem? hd1)
        obtain ⟨p1, p2, p3, p4, p5⟩ := told_ok hz
        walk_at "go"
        refine spM.of ⟨_, _, rfl, ⟨_, ⟨rfl, rfl⟩, rfl⟩, ?_⟩
        walk_at "go"
        refine call_readT rfl (by omega) p4 p3 p2 (fun e he => ?_) (fun inp cs' rs' he => ?_)
        · rw [p1] at he
          cases he
          refine got_text ?_
          walk_at "go"
          refine call_sameR (n := 3) plain_it ?_
          walk_at "go"
          exact hN3 _ _ ⟨_, _, rfl, rfl⟩
        · rw [p1] at he; cases he
      rintro ρ O ⟨s4, s5, rfl, rfl⟩
      subst hN
      exact rfl
    rintro i0 dt hd ρ O ⟨rfl, s2, s3, s4, s5, s6, s7, s8, s9, s10, s11, s12, s13, s14, s15, s16, s17, s18, rfl⟩ N2 hN2
    subst hN
    refine go_set (ρ' := [.un, .sh (.opq (.ref b)), .sh dt, s3, s4, s5, s6, s7, s8, s9, s10, s11, s12, s13, s14, s15, s16, s17, s18]) rfl ?_
    refine go_st fun N hN => ?_
    walk_at "go"
    refine call_words4 fun w0 w1 w2 w3 hn hd4 => ?_
    have n0 : isNm (.str w0) = true := hn _ (by simp)
    have n1 : isNm (.str w1) = true := hn _ (by simp)
    simp only [List.nodup_cons, List.mem_cons, not_or] at hd4
    have ne01 : w0 ≠ w1 := hd4.1.1
    clear hn hd4
    walk_at "go"
    subst hN
    refine go_st fun N hN => ?_
    walk_at "go"
    refine spM.of ⟨6, w0, w1, [w2, w3], rfl, by decide, by decide, fun cs rs ni hp => ?_⟩
    walk_at "go"
    subst hN
    have g1 := PG.of hp (by decide)
    have hpg := g1.pg n0 n1
    obtain ⟨n, ks, en, rfl, pc, epg⟩ := g1.cut
    obtain rfl : ni = n := by omega
    clear hp g1
    refine go_st fun N hN => ?_
    walk_at "go"
    refine spM.of ⟨_, _, _, rfl, hpg, ?_⟩
    rw [epg]
    clear epg hpg en
    have hlen : (pgL ni ks rs).length = 1 + ks.length + rs.length := pg_len
    have k5 := pc.k5
    have k1 := pc.k1
    have rl := pc.rl
    have r1 := pc.r1
    have hlw := pc.words n0 n1
    have wb := fun {a} h {bl} hb tl => pc.bent n0 n1 (at' := a) h (bl := bl) hb tl
    have wp := fun {sp j} h1 h2 {l} hw hc => pc.put n0 n1 ne01 (sp := sp) (j := j) h1 h2 (l := l) hw hc
    have wf := fun {a} h => pc.first (a := a) h
    have wt := pc.tail n0 n1
    have wu := pc.up n0 n1 ne01
    generalize pgL ni ks rs = LL at hlen hlw wb wp wf wt wu ⊢
    clear pc
    walk_at "go"
    subst hN
    refine go_st fun N hN => ?_
    walk_at "go"
    refine call_pull (by rw [List.length_map]; omega) (by rw [List.length_map]; omega) fun ka ka0 ka1 => ?_
    rw [List.length_map] at ka1
    obtain ⟨k, rfl⟩ : ∃ k : Nat, ka = (k : Int) := ⟨ka.toNat, by omega⟩
    have hk : k < LL.length := by omega
    obtain ⟨lk, hlk⟩ : ∃ lk, LL[k]? = some lk := ⟨_, List.getElem?_eq_getElem hk⟩
    have hlm := List.mem_of_getElem? hlk
    obtain ⟨ws, hbt, hws5⟩ := hlw lk hlm
    walk_at "go"
    subst hN
    refine go_st fun N hN => ?_
    walk_at "go"
    have hat : atI (LL.map D.str) ((k : Nat) : Int) = some (.str lk) := atI_nat (by rw [List.getElem?_map, hlk]; rfl)
    refine go_ixL hat ?_
    walk_at "go"
    refine spM.of ⟨lk, ws, rfl, hbt, hws5, fun bl hbl => ?_⟩
    walk_at "go"
    subst hN
    have hbl2 := hbl.ln
    have hLok : ∀ l ∈ LL, LnOk l := fun l hl => by obtain ⟨ws, h, _⟩ := hlw l hl; exact h.ln
    clear hlw hat hbt hws5 hlm hlk
    have jn : ∀ {xs : List Str} {R : D → Prop}, (∀ y ∈ xs, LnOk y) → xs.length ≤ 40 → R (.str (Txt.join "\n" xs)) → joinD "\n" (.lst (xs.map D.str)) R := fun {xs R} h1 h2 h3 => by
      refine go_joinS ?_ (by decide +kernel) h3
      have := len_sum xs fun y hy => Nat.le_trans (h1 y hy).2.1 (by decide)
      omega
    refine go_st fun N hN => ?_
    walk_at "go"
    refine spM.of ⟨_, _, rfl, ⟨_, ⟨rfl, rfl⟩, rfl⟩, ?_⟩
    walk_at "go"
    refine go_slL (cut_toS (by omega)) ?_
    walk_at "go"
    have mem3 : ∀ (a c : Nat) {x : Str}, LnOk x → ∀ y ∈ (LL.take a ++ [x]) ++ LL.drop c, LnOk y := fun a c x hx y hy => by
      simp only [List.mem_append, List.mem_cons, List.not_mem_nil, or_false] at hy
      rcases hy with (h | rfl) | h
      · exact hLok y (List.mem_of_mem_take h)
      · exact hx
      · exact hLok y (List.mem_of_mem_drop h)
    have len3 : ∀ (a c : Nat) {x : Str}, ((LL.take a ++ [x]) ++ LL.drop c).length ≤ 40 := fun a c x => by
      simp only [List.length_append, List.length_cons, List.length_nil, List.length_take, List.length_drop]; omega
    have ne3 : ∀ (a c : Nat) {x : Str}, (LL.take a ++ [x]) ++ LL.drop c ≠ [] := fun a c x h => by simp at h
    have map3 : ∀ (a c : Nat) {x : Str}, (((LL.take a).map D.str ++ [D.str x]) ++ (LL.drop c).map D.str) = ((LL.take a ++ [x]) ++ LL.drop c).map D.str := fun a c x => by simp only [List.map_append]; rfl
    refine ⟨szk' (by simp; omega), ?_⟩
    walk_at "go"
    refine go_slL (cut_fromS (by omega)) ?_
    walk_at "go"
    refine ⟨szk' (by simp; omega), ?_⟩
    rw [map3]
    refine jn (mem3 _ _ hbl2) (len3 _ _) ?_
    walk_at "go"
    rw [show ((k : Nat) : Int).toNat = k from Int.toNat_natCast k]
    refine call_readE (ne3 _ _) (mem3 _ _ hbl2) (len3 _ _) (wb hk hbl _) ?_
    refine got_text ?_
    walk_at "go"
    refine call_sameR (n := 3) plain_it ?_
    walk_at "go"
    subst hN
    refine go_st fun N hN => ?_
    walk_at "go"
    have lk : (ks.map natD).length = ks.length := List.length_map ..
    refine go_strI (lgN (by rw [lk]; omega)) ?_
    walk_at "go"
    refine go_strI (lgN (n := rs.length + 1) (by omega)) ?_
    walk_at "go"
    subst hN
    refine go_st fun N hN => ?_
    walk_at "go"
    have pn : (Str.ofString (toString ((ks.length : Nat) : Int))).length ≤ 20 := (num_small (by omega)).1.2.2.1
    have pm : (Str.ofString (toString ((rs.length + 1 : Nat) : Int))).length ≤ 20 := (num_small (by omega)).1.2.2.1
    have wl0 : w0.length ≤ 20 := (nm_nbw n0).2.2.1
    have l1 : ("read " : Str).length = 5 := by decide +kernel
    have l2 : ("jump " : Str).length = 5 := by decide +kernel
    have l3 : ("same 0 " : Str).length = 7 := by decide +kernel
    have l4 : (" 0" : Str).length = 2 := by decide +kernel
    have l5 : ("less 0 0 " : Str).length = 9 := by decide +kernel
    have l6 : ("link " : Str).length = 5 := by decide +kernel
    have l7 : (" 0 0" : Str).length = 4 := by decide +kernel
    rw [lk]
    rw [show ((rs.length : Nat) : Int) + 1 = ((rs.length + 1 : Nat) : Int) from rfl]
    have hwr := fun {l} h => wr_all (c := ks.length) (m := rs.length) (w0 := w0) (l := l) n0 k5 rl h
    unfold wrL numW at hwr
    generalize Str.ofString (toString ((ks.length : Nat) : Int)) = tc at pn hwr ⊢
    generalize Str.ofString (toString ((rs.length + 1 : Nat) : Int)) = tj at pm hwr ⊢
    iterate 8 (first | (refine ⟨szk' (by (try simp only [len_cat]); omega), ?_⟩; walk_at "go") | skip)
    refine call_of (by show 0 < 17; decide) (by show 17 < 1000000; decide) fun wd hwd => ?_
    obtain ⟨wl, hwl, rfl⟩ : ∃ wl ∈ wrL tc tj w0, wd = .str wl := by
      have hwd : wd ∈ (wrL tc tj w0).map D.str := hwd
      obtain ⟨x, hx, rfl⟩ := List.mem_map.mp hwd
      exact ⟨x, hx, rfl⟩
    obtain ⟨wn1, wn2, wn3⟩ := hwr hwl
    clear hwr hwd hwl
    walk_at "go"
    subst hN
    refine go_st fun N hN => ?_
    walk_at "go"
    refine call_pull (by omega) (by omega) fun kb kb0 kb1 => ?_
    obtain ⟨j, rfl⟩ : ∃ k : Nat, kb = (k : Int) := ⟨kb.toNat, by omega⟩
    have hj : j < rs.length := by omega
    walk_at "go"
    rw [show (1 + ((ks.length : Nat) : Int)) + ((j : Nat) : Int) = ((1 + ks.length + j : Nat) : Int) by omega]
    subst hN
    refine go_st fun N hN => ?_
    walk_at "go"
    refine go_slL (cut_toS (by omega)) ?_
    walk_at "go"
    refine ⟨szk' (by simp; omega), ?_⟩
    walk_at "go"
    refine go_slL (cut_fromS (by omega)) ?_
    walk_at "go"
    refine ⟨szk' (by simp; omega), ?_⟩
    rw [map3]
    refine jn (mem3 _ _ wn2) (len3 _ _) ?_
    walk_at "go"
    rw [show ((1 + ks.length + j : Nat) : Int).toNat = 1 + ks.length + j from Int.toNat_natCast _]
    subst hN
    refine go_st fun N hN => ?_
    have rest : ∀ d : D, (¬ (j = 0 ∧ wl = "cell 2") → d = .tup [.str "InvalidText", .int ((1 + ks.length + j : Nat) : Int)]) → N [.un, .sh (.opq (.ref b)), .sh dt, s3, s4, s5, .sh (.lst [.str w0, .str w1, .str w2, .str w3]), .sh (.tup [.lst (ks.map natD), .lst rs, .int ni]), .sh (.lst (LL.map D.str)), .sh (.int (1 + (ks.length : Int))), .sh (.int k), .sh (.str bl), .sh (.str tc), .sh (.str tj), .sh (.str wl), .sh (.int ((1 + ks.length + j : Nat) : Int)), .sh (.str (Txt.join "\n" ((LL.take (1 + ks.length + j) ++ [wl]) ++ LL.drop (1 + ks.length + j)))), .sh d, s18] noO := by
      intro d17 hd17
      subst hN
      refine go_st fun N hN => ?_
      have rest2 : N [.un, .sh (.opq (.ref b)), .sh dt, s3, s4, s5, .sh (.lst [.str w0, .str w1, .str w2, .str w3]), .sh (.tup [.lst (ks.map natD), .lst rs, .int ni]), .sh (.lst (LL.map D.str)), .sh (.int (1 + (ks.length : Int))), .sh (.int k), .sh (.str bl), .sh (.str tc), .sh (.str tj), .sh (.str wl), .sh (.int ((1 + ks.length + j : Nat) : Int)), .sh (.str (Txt.join "\n" ((LL.take (1 + ks.length + j) ++ [wl]) ++ LL.drop (1 + ks.length + j)))), .sh d17, s18] noO := by
        generalize Txt.join "\n" ((LL.take (1 + ks.length + j) ++ [wl]) ++ LL.drop (1 + ks.length + j)) = tt
        clear hd17 wn1 wn2 wn3 wp wb
        subst hN
        refine go_st fun N hN => ?_
        walk_at "go"
        subst hN
        walk_at "go"
        have ne0 : LL ≠ [] := fun e => by rw [e] at hlen; simp at hlen; omega
        refine spM.of ⟨_, rfl, _, _, rfl, ⟨_, .inl ⟨rfl, rfl⟩, rfl⟩, szlt rfl, ?_⟩
        walk_at "go"
        refine jn hLok (by omega) ?_
        walk_at "go"
        have c4 : ("\n" : Str).length = 1 := by decide +kernel
        have hjl := join_len (sep := "\n") (by decide +kernel) (xs := LL) (k := 200) fun l h => (hLok l h).2.1
        have hj2 : LL.length * 201 ≤ 30 * 201 := Nat.mul_le_mul_right 201 (by omega)
        refine ⟨Nat.le_trans (by show (Txt.join "\n" LL).length + ("\n" : Str).length ≤ 100000; omega) (by decide), ?_⟩
        have ej : (Txt.join "\n" LL ++ ("\n" : Str) : Str) = Txt.join "\n" (LL ++ [("" : Str)]) := by rw [join_snoc ne0, str_nil]
        rw [show (Txt.join (Str.ofString "\n") LL ++ Str.ofString "\n" : Str) = Txt.join "\n" (LL ++ [("" : Str)]) from ej]
        walk_at "go"
        refine call_readE (k := LL.length) (by simp) (fun y hy => ?_) (by rw [List.length_append, List.length_singleton]; omega) wt ?_
        · rcases List.mem_append.mp hy with h | h
          · exact hLok y h
          · rw [List.mem_singleton] at h
            subst h
            exact ln_of (by decide +kernel)
        refine got_text ?_
        refine ⟨_, _, rfl, ⟨_, .inr (.inl ⟨rfl, rfl⟩), rfl⟩, szlt rfl, ?_⟩
        walk_at "go"
        rw [show (LL.map D.str ++ [D.str ("up 0" : Str)]) = (LL ++ [("up 0" : Str)]).map D.str by rw [List.map_append]; rfl]
        have hup : ∀ y ∈ LL ++ [("up 0" : Str)], LnOk y := fun y hy => by
          rcases List.mem_append.mp hy with h | h
          · exact hLok y h
          · rw [List.mem_singleton] at h
            subst h
            exact ln_of (by decide +kernel)
        have hupl : (LL ++ [("up 0" : Str)]).length ≤ 40 := by rw [List.length_append, List.length_singleton]; omega
        refine jn hup hupl ?_
        walk_at "go"
        refine call_readE (k := LL.length) (by simp) hup hupl wu ?_
        refine got_text ?_
        refine ⟨_, _, rfl, ⟨_, .inr (.inr ⟨rfl, rfl⟩), rfl⟩, szlt rfl, ?_⟩
        walk_at "go"
        refine go_slL (cut_toS (by omega)) ?_
        walk_at "go"
        have htk : ∀ a, ∀ y ∈ LL.take a, LnOk y := fun a y hy => hLok y (List.mem_of_mem_take hy)
        rw [show (1 + (ks.length : Int)).toNat = 1 + ks.length by omega]
        refine jn (htk _) (by rw [List.length_take]; omega) ?_
        walk_at "go"
        refine call_readE (k := 1 + ks.length) (fun e => ?_) (htk _) (by rw [List.length_take]; omega) (wf rfl) ?_
        · have := congrArg List.length e
          rw [List.length_take, List.length_nil] at this
          omega
        refine got_text ?_
        refine allG_nil ?_
        walk_at "go"
        rw [show (LL.map D.str).length = LL.length from List.length_map .., show (1 + (ks.length : Int)) = ((1 + ks.length : Nat) : Int) by omega]
        refine call_sameR (n := 3) (a := .lst [.tup [.str "InvalidText", .int (LL.length : Nat)], .tup [.str "InvalidText", .int (LL.length : Nat)], .tup [.str "InvalidText", .int ((1 + ks.length : Nat) : Int)]]) ⟨le_sz rfl, fun d hd => ?_⟩ ?_
        · simp only [List.mem_cons, List.not_mem_nil, or_false] at hd
          rcases hd with rfl | rfl | rfl <;> exact plain_it
        walk_at "go"
        exact hN2 _ _ ⟨rfl, _, _, _, _, _, _, _, _, _, _, _, _, _, _, _, _, _, rfl⟩
      walk_at "go"
      have same : d17 = .tup [.str "InvalidText", .int ((1 + ks.length + j : Nat) : Int)] → ∀ {Q : QD} {E : QX}, Q (.bl true) noO → spM (sameS 3) [d17, .tup [.str "InvalidText", .int ((1 + ks.length + j : Nat) : Int)]] noO Q E := fun e Q E q => by
        subst e; exact call_sameR (n := 3) plain_it q
      by_cases hw : wl = "cell 2"
      · rw [decide_eq_true hw]
        walk_at "go"
        by_cases hj0 : j = 0
        · show bc (decide ((1 + (ks.length : Int)) < ((1 + ks.length + j : Nat) : Int))) _ _
          rw [decide_eq_false (by omega)]
          walk_at "go"
          exact rest2
        · show bc (decide ((1 + (ks.length : Int)) < ((1 + ks.length + j : Nat) : Int))) _ _
          rw [decide_eq_true (by omega)]
          walk_at "go"
          refine same (hd17 fun h => hj0 h.1) ?_
          walk_at "go"
          exact rest2
      · rw [decide_eq_false hw]
        walk_at "go"
        refine same (hd17 fun h => hw h.2) ?_
        walk_at "go"
        exact rest2
    walk_at "go"
    refine spM.of ⟨_, _, rfl, ⟨_, ⟨rfl, rfl⟩, rfl⟩, ?_⟩
    walk_at "go"
    have hput := fun h => wp (sp := 1 + ks.length + j) (j := j) rfl hj (l := wl) wn1 h
    refine call_readR (ne3 _ _) (mem3 _ _ wn2) (len3 _ _) (fun e he => ?_) (fun inp cs' rs' he => ?_)
    · refine got_text ?_
      walk_at "go"
      refine rest _ fun h => ?_
      rw [hput fun h0 => wn3.resolve_left fun hw => h ⟨h0, hw⟩] at he
      cases he; rfl
    · walk_at "go"
      refine rest _ fun h => ?_
      rw [hput fun h0 => wn3.resolve_left fun hw => h ⟨h0, hw⟩] at he
      cases he
end
end LW
set_option Elab.async false
set_option linter.all false
set_option maxRecDepth 100000
set_option maxHeartbeats 0
namespace LW
open PySem PySem.Spec PyProof.Rows L2 EV PySem.XO PySem.W LamX
theorem def_of {K : PySem.W.Frag} (c : He.SaysD fa fn K) (i : Nat) (x : Str) (st : Stmt) (h : fn[i]? = some (dd x st)) : ∃ fd, FnP K x st (He.ga K x) fd := c.def_ i h
theorem dmk_of {K : PySem.W.Frag} (c : He.SaysD fa fn K) (i : Nat) (cl x q : Str) (st : Stmt) (kws : List (Str × He.Dv)) (kv : List (Str × V)) (h : fn[i]? = some (dmk cl x q st kws)) (e : (kws.map fun q => (q.1, q.2.v K)) = kv) : ∃ fd, FunD K x q (defArgs st) (defBody st) (defScope st) [] kv (He.ma K (He.ga K cl) x) fd := by subst e; exact c.def_ i h
theorem facts {w : World} {K : PySem.W.Frag} {h : Heap} {mg : Str → Option Value} {f : Addr} (X : K.In h) (G : h.Ns mainGlobals mg) (hfa : mg ("law" : Str) = some (.ref f)) (c0 : SaysS fa fn ts inL tf exT sm w h K) :
    LawAtS PySem.Challenge.rw_oncethrough_k33_wrong_reader_pages w K CX0 14 63 "_law_script" mg f h := by
  have cS := c0
  have c0 := cS.j
  have c := c0.i.t.d
  have hin := c0.i.ini
  have hexT := c0.i.more
  simp only [exT, Bool.and_eq_true] at hexT
  obtain ⟨hex, ex_smB0, ex_smok0, ex_FORMS, ex_PLACES, ex_LAST, ex_t1⟩ := hexT
  obtain ⟨es_FORMS, n_FORMS, kd_FORMS⟩ := c0.i.t.tab 0 rfl
  have TK_FORMS : TabK K w (He.ga K "FORMS") formsT := tabK_of kd_FORMS ex_FORMS
  obtain ⟨es_PLACES, n_PLACES, kd_PLACES⟩ := c0.i.t.tab 1 rfl
  have TK_PLACES : TabK K w (He.ga K "PLACES") placesT := tabK_of kd_PLACES ex_PLACES
  obtain ⟨fd0, F0⟩ := def_of c 0 "_law_box" s_box rfl
  obtain ⟨fd1, F1⟩ := def_of c 1 "_law_pull" s_pull rfl
  obtain ⟨fd2, F2⟩ := def_of c 2 "_law_of" s_of rfl
  obtain ⟨fd3, F3⟩ := def_of c 3 "_law_words" s_words rfl
  obtain ⟨fd4, F4⟩ := def_of c 4 "_law_same" s_same rfl
  obtain ⟨fd5, F5⟩ := def_of c 5 "_law_field" s_field rfl
  obtain ⟨fd6, F6⟩ := def_of c 6 "_law_got" s_got rfl
  obtain ⟨fd7, F7⟩ := def_of c 7 "_law_all_got" s_all_got rfl
  obtain ⟨fd8, F8⟩ := def_of c 8 "_law_step" s_step rfl
  obtain ⟨fd9, F9⟩ := def_of c 9 "_law_plan" s_plan rfl
  obtain ⟨fd10, F10⟩ := def_of c 10 "_law_spoilt" s_spoilt rfl
  obtain ⟨fd11, F11⟩ := def_of c 11 "_law_reader_lines" s_reader_lines rfl
  obtain ⟨fd12, F12⟩ := def_of c 12 "law" s_law rfl
  obtain ⟨fd13, F13⟩ := def_of c 13 "is_name" s_is_name rfl
  obtain ⟨fd14, F14⟩ := def_of c 14 "is_number" s_is_number rfl
  obtain ⟨fd15, F15⟩ := def_of c 15 "is_step" s_is_step rfl
  obtain ⟨fd16, F16⟩ := def_of c 16 "check_rows" s_check_rows rfl
  obtain ⟨fd17, F17⟩ := def_of c 17 "number_in" s_number_in rfl
  obtain ⟨fd18, F18⟩ := def_of c 18 "read_cells" s_read_cells rfl
  obtain ⟨fd19, F19⟩ := def_of c 19 "read_step" s_read_step rfl
  obtain ⟨fd20, F20⟩ := dmk_of c 20 "Reader" "__init__" "Reader.__init__" s_Reader_init [("inputs", .int 0)] [("inputs", .int 0)] rfl rfl
  obtain ⟨fdS0, FS0⟩ : ∃ fd, FunD K "read" "Reader.read" (defArgs (clsS 28 7)) (defBody (clsS 28 7)) (defScope (clsS 28 7)) [] [] (He5.wf K (He.ga K "Reader") "staticmethod" "read") fd := cS.def_ 0 (d := sm0) rfl ex_smok0
  have SM_Reader_read := smet_of ex_smB0 FS0.kp
  have e := hfa.symm.trans (He.glo_ok X G (c.fact 12 (f := .glo "law") rfl))
  cases e
  have b12 := FunD.bindsA (ps := ["_law_script"]) F12 fun _ _ _ _ _ _ us hl => match us, hl with | [_], _ => rfl
  have T0 := gf_of F0 (He.glo_ok X G (c.fact 0 (f := .glo "_law_box") rfl)) (FunD.bindsN (ps := ["_law_script"]) F0 fun _ _ _ _ _ _ us hl => match us, hl with | [_], _ => rfl)
  have T1 := gf_of F1 (He.glo_ok X G (c.fact 1 (f := .glo "_law_pull") rfl)) (FunD.bindsN (ps := ["_law_box_here", "_law_many"]) F1 fun _ _ _ _ _ _ us hl => match us, hl with | [_, _], _ => rfl)
  have T2 := gf_of F2 (He.glo_ok X G (c.fact 2 (f := .glo "_law_of") rfl)) (FunD.bindsN (ps := ["_law_box_here", "_law_some"]) F2 fun _ _ _ _ _ _ us hl => match us, hl with | [_, _], _ => rfl)
  have T3 := gf_of F3 (He.glo_ok X G (c.fact 3 (f := .glo "_law_words") rfl)) (FunD.bindsN (ps := ["_law_box_here", "_law_many"]) F3 fun _ _ _ _ _ _ us hl => match us, hl with | [_, _], _ => rfl)
  have T4 := gf_of F4 (He.glo_ok X G (c.fact 4 (f := .glo "_law_same") rfl)) (FunD.bindsN (ps := ["_law_found", "_law_due"]) F4 fun _ _ _ _ _ _ us hl => match us, hl with | [_, _], _ => rfl)
  have T5 := gf_of F5 (He.glo_ok X G (c.fact 5 (f := .glo "_law_field") rfl)) (FunD.bindsN (ps := ["_law_e"]) F5 fun _ _ _ _ _ _ us hl => match us, hl with | [_], _ => rfl)
  have T6 := gf_of F6 (He.glo_ok X G (c.fact 6 (f := .glo "_law_got") rfl)) (FunD.bindsN (ps := ["_law_ask"]) F6 fun _ _ _ _ _ _ us hl => match us, hl with | [_], _ => rfl)
  have T7 := gf_of F7 (He.glo_ok X G (c.fact 7 (f := .glo "_law_all_got") rfl)) (FunD.bindsN (ps := ["_law_asks"]) F7 fun _ _ _ _ _ _ us hl => match us, hl with | [_], _ => rfl)
  have T8 := gf_of F8 (He.glo_ok X G (c.fact 8 (f := .glo "_law_step") rfl)) (FunD.bindsN (ps := ["_law_box_here", "_law_cells", "_law_words_here", "_law_many"]) F8 fun _ _ _ _ _ _ us hl => match us, hl with | [_, _, _, _], _ => rfl)
  have T9 := gf_of F9 (He.glo_ok X G (c.fact 9 (f := .glo "_law_plan") rfl)) (FunD.bindsN (ps := ["_law_box_here", "_law_words_here", "_law_cap"]) F9 fun _ _ _ _ _ _ us hl => match us, hl with | [_, _, _], _ => rfl)
  have T10 := gf_of F10 (He.glo_ok X G (c.fact 10 (f := .glo "_law_spoilt") rfl)) (FunD.bindsN (ps := ["_law_box_here", "_law_line"]) F10 fun _ _ _ _ _ _ us hl => match us, hl with | [_, _], _ => rfl)
  have T11 := gf_of F11 (He.glo_ok X G (c.fact 11 (f := .glo "_law_reader_lines") rfl)) (FunD.bindsN (ps := ["_law_plan_here"]) F11 fun _ _ _ _ _ _ us hl => match us, hl with | [_], _ => rfl)
  have T13 := gf_of F13 (He.glo_ok X G (c.fact 13 (f := .glo "is_name") rfl)) (FunD.bindsN (ps := ["value"]) F13 fun _ _ _ _ _ _ us hl => match us, hl with | [_], _ => rfl)
  have T14 := gf_of F14 (He.glo_ok X G (c.fact 14 (f := .glo "is_number") rfl)) (FunD.bindsN (ps := ["value", "least", "most"]) F14 fun _ _ _ _ _ _ us hl => match us, hl with | [_, _, _], _ => rfl)
  have T15 := gf_of F15 (He.glo_ok X G (c.fact 15 (f := .glo "is_step") rfl)) (FunD.bindsN (ps := ["value", "cells", "rows"]) F15 fun _ _ _ _ _ _ us hl => match us, hl with | [_, _, _], _ => rfl)
  have T16 := gf_of F16 (He.glo_ok X G (c.fact 16 (f := .glo "check_rows") rfl)) (FunD.bindsN (ps := ["cells", "rows"]) F16 fun _ _ _ _ _ _ us hl => match us, hl with | [_, _], _ => rfl)
  have T17 := gf_of F17 (He.glo_ok X G (c.fact 17 (f := .glo "number_in") rfl)) (FunD.bindsN (ps := ["word"]) F17 fun _ _ _ _ _ _ us hl => match us, hl with | [_], _ => rfl)
  have T18 := gf_of F18 (He.glo_ok X G (c.fact 18 (f := .glo "read_cells") rfl)) (FunD.bindsN (ps := ["lines"]) F18 fun _ _ _ _ _ _ us hl => match us, hl with | [_], _ => rfl)
  have T19 := gf_of F19 (He.glo_ok X G (c.fact 19 (f := .glo "read_step") rfl)) (FunD.bindsN (ps := ["lines", "at"]) F19 fun _ _ _ _ _ _ us hl => match us, hl with | [_, _], _ => rfl)
  have m_isinstance := He.free_ok X G (c.fact 32 (f := .free "isinstance") rfl)
  have m_str := He.free_ok X G (c.fact 33 (f := .free "str") rfl)
  have m_len := He.free_ok X G (c.fact 34 (f := .free "len") rfl)
  have m_all := He.free_ok X G (c.fact 35 (f := .free "all") rfl)
  have m_int := He.free_ok X G (c.fact 36 (f := .free "int") rfl)
  have m_bool := He.free_ok X G (c.fact 37 (f := .free "bool") rfl)
  have m_list := He.free_ok X G (c.fact 38 (f := .free "list") rfl)
  have m_tuple := He.free_ok X G (c.fact 39 (f := .free "tuple") rfl)
  have m_zip := He.free_ok X G (c.fact 40 (f := .free "zip") rfl)
  have m_abs := He.free_ok X G (c.fact 41 (f := .free "abs") rfl)
  have m_super := He.free_ok X G (c.fact 42 (f := .free "super") rfl)
  have m_range := He.free_ok X G (c.fact 43 (f := .free "range") rfl)
  have m_enumerate := He.free_ok X G (c.fact 44 (f := .free "enumerate") rfl)
  have m_min := He.free_ok X G (c.fact 45 (f := .free "min") rfl)
  obtain ⟨t_LONGEST_NAME, M_LONGEST_NAME⟩ := He.int_ok X G (c.fact 46 (f := .int "LONGEST_NAME" 6) rfl)
  obtain ⟨t_MOST_CELLS, M_MOST_CELLS⟩ := He.int_ok X G (c.fact 47 (f := .int "MOST_CELLS" 300) rfl)
  obtain ⟨t_MOST_ROWS, M_MOST_ROWS⟩ := He.int_ok X G (c.fact 48 (f := .int "MOST_ROWS" 10000) rfl)
  obtain ⟨t_MOST_RANGE, M_MOST_RANGE⟩ := He.int_ok X G (c.fact 49 (f := .int "MOST_RANGE" 10000) rfl)
  obtain ⟨t_MOST_DIGITS, M_MOST_DIGITS⟩ := He.int_ok X G (c.fact 50 (f := .int "MOST_DIGITS" 15) rfl)
  obtain ⟨t_LETTERS, M_LETTERS⟩ := He.str_ok X G (c.fact 51 (f := .str "LETTERS" "abcdefghijklmnopqrstuvwxyz") rfl)
  obtain ⟨t_DIGITS, M_DIGITS⟩ := He.str_ok X G (c.fact 52 (f := .str "DIGITS" "0123456789") rfl)
  have M_OnceError := He.glo_ok X G (c.fact 20 (f := .glo "OnceError") rfl)
  have M_Missing := He.glo_ok X G (c.fact 21 (f := .glo "Missing") rfl)
  have M_NothingLeft := He.glo_ok X G (c.fact 22 (f := .glo "NothingLeft") rfl)
  have M_InvalidNumber := He.glo_ok X G (c.fact 23 (f := .glo "InvalidNumber") rfl)
  have M_InvalidText := He.glo_ok X G (c.fact 24 (f := .glo "InvalidText") rfl)
  have M_TooMany := He.glo_ok X G (c.fact 25 (f := .glo "TooMany") rfl)
  have M_InvalidCell := He.glo_ok X G (c.fact 26 (f := .glo "InvalidCell") rfl)
  have M_InvalidStep := He.glo_ok X G (c.fact 27 (f := .glo "InvalidStep") rfl)
  have M_Reader := He.glo_ok X G (c.fact 28 (f := .glo "Reader") rfl)
  have M_FORMS := He.glo_ok X G (c.fact 29 (f := .glo "FORMS") rfl)
  have M_PLACES := He.glo_ok X G (c.fact 30 (f := .glo "PLACES") rfl)
  have M_LAST := He.glo_ok X G (c.fact 31 (f := .glo "LAST") rfl)
  have CL_Reader := He.cls_ok (c.fact 53 (f := .cls "Reader") rfl)
  have MK_Reader := He.mkr_ok (c.fact 54 (f := .mkr "Reader") rfl)
  have NA_Reader_cells := He.noat_ok (c.fact 55 (f := .noat "Reader" "cells") rfl)
  have NA_Reader_rows := He.noat_ok (c.fact 56 (f := .noat "Reader" "rows") rfl)
  have NA_Reader_inputs := He.noat_ok (c.fact 57 (f := .noat "Reader" "inputs") rfl)
  have TO : TopO Pr mg := ⟨m_super, by decide +kernel⟩
  refine ⟨fd12, tf.map (He.cT K), spLaw K [((He.cT K ("law", none)).2, lamQ "law")], fun p hp => ?_, fun p hp => ?_, fun p hp => ?_, fun s v => b12 s [v] rfl, fun H a ns hl _ hT hS => ⟨a, ns, rfl, hS, fun p hp => ?_, fun _ => rfl⟩, fun base KB GB TBs => ?_⟩
  · obtain ⟨z, hz, rfl⟩ := List.mem_map.mp hp
    exact c0.empty z hz
  · obtain ⟨z, hz, rfl⟩ := List.mem_map.mp hp
    exact c0.out z hz
  · obtain ⟨z, hz, rfl⟩ := List.mem_map.mp hp
    exact PySem.W.codeHd_of_K X (c0.hd z hz)
  · simp only [List.mem_cons, List.not_mem_nil, or_false] at hp
    subst hp; exact hT _ (by simp [tf])
  have TB_law := TBs (He.cT K ("law", none)) (by simp [tf])
  obtain ⟨mvA, KB_inputs⟩ := FunD.kbinds0 (ps := psR) F20 3 ["inputs"] [] (fun us _ ws => us ++ ws) (by decide) (fun q hq => by cases hq) (fun r1 _ r3 => r1.append r3) fun D doc pm an cdv ct us mv ws h1 h2 h3 => match us, mv, ws, h1, h2, h3 with | [_, _, _], [], [_], _, _, _ => rfl
  obtain ⟨mvB, KB_no⟩ := FunD.kbinds0 (ps := psR) F20 3 [] [("inputs", .int 0)] (fun us mv _ => us ++ mv) (by decide) (fun q hq => hq) (fun r1 r2 _ => r1.append r2) fun D doc pm an cdv ct us mv ws h1 h2 h3 => match us, mv, ws, h1, h2, h3 with | [_, _, _], [_], [], _, _, _ => ⟨_, _, _, _, _, _, rfl, rfl, rfl⟩
  have G_box := ok_box (P := Pr) (w := w) (base := base) (fun_of F0) m_int m_list
  have G_pull := ok_pull (P := Pr) (w := w) (base := base) (fun_of F1) m_int m_len m_abs
  have G_of := ok_of (fun_of F2) G_pull T1 m_len
  have G_same := ok_same (P := Pr) (w := w) (base := base) (fun_of F4) T4 m_isinstance m_list m_tuple m_bool m_int m_str m_len m_all m_zip 3
  have G_field := ok_field (w := w) (mg := mg) (base := base) (P := Pr) (fun_of F5) hex hin
  have G_got := ok_got (j := 9) (fun_of F6) hex hin G_field T5 M_OnceError M_Missing M_NothingLeft
  have G_all_got := ok_all_got (fun_of F7) G_got T6
  have G_is_name := ok_is_name (P := Pr) (w := w) (base := base) (fun_of F13) m_isinstance m_str m_len m_all M_LETTERS M_LONGEST_NAME
  have G_is_number := ok_is_number (P := Pr) (w := w) (base := base) (fun_of F14) m_isinstance m_bool m_int
  have G_is_step := ok_is_step (fun_of F15) G_is_name T13 G_is_number T14 m_isinstance m_str m_tuple m_len m_zip M_FORMS TK_FORMS
  have G_check_rows := ok_check_rows (fun_of F16) G_is_step T15 m_len m_enumerate M_PLACES TK_PLACES M_LAST ex_LAST (er_InvalidStep TO hex hin) M_InvalidStep
  have G_init := ok_Reader_init (AA := He.ga K) (fun_of F20) G_is_number T14 G_check_rows T16 m_len m_enumerate m_range m_tuple M_MOST_CELLS M_MOST_ROWS M_MOST_RANGE
    (er_TooMany TO hex hin) M_TooMany (er_InvalidCell TO hex hin) M_InvalidCell (er_InvalidNumber TO hex hin) M_InvalidNumber CL_Reader NA_Reader_cells NA_Reader_rows NA_Reader_inputs
  have G_check_rowsN := ok_check_rowsN (fun_of F16) G_is_step T15 m_len m_enumerate M_PLACES TK_PLACES M_LAST ex_LAST (er_InvalidStep TO hex hin) M_InvalidStep
  have G_initN := ok_Reader_initN (AA := He.ga K) (fun_of F20) G_is_number T14 G_check_rowsN T16 m_len m_enumerate m_range m_tuple M_MOST_CELLS M_MOST_ROWS M_MOST_RANGE
    (er_TooMany TO hex hin) M_TooMany (er_InvalidCell TO hex hin) M_InvalidCell (er_InvalidNumber TO hex hin) M_InvalidNumber CL_Reader NA_Reader_cells NA_Reader_rows NA_Reader_inputs
  have G_words := ok_words (P := Pr) (w := w) (base := base) (fun_of F3) G_pull T1 G_of T2 m_len m_int m_range
  have G_step := ok_step (P := Pr) (w := w) (base := base) (fun_of F8) G_pull T1 G_of T2
  have G_plan := ok_plan (P := Pr) (w := w) (base := base) (fun_of F9) G_pull T1 G_of T2 G_step T8 m_len m_range
  have G_number_in := ok_number_inP (P := Pr) (w := w) (base := base) (fun_of F17) m_len m_all m_int M_DIGITS M_MOST_DIGITS
  have G_read_cells := ok_read_cells (fun_of F18) G_number_in T17 m_len m_enumerate M_MOST_CELLS M_MOST_RANGE (er_InvalidText TO hex hin) M_InvalidText
  have G_read_step := ok_read_step (fun_of F19) G_number_in T17 G_is_name T13 m_len m_zip m_all m_isinstance m_str M_FORMS TK_FORMS (er_InvalidText TO hex hin) M_InvalidText
  have G_read := ok_Reader_readG (AA := He.ga K) (fun_of FS0) G_read_cells T18 G_read_step T19 MK_Reader G_initN M_Reader KB_inputs m_len m_min m_range M_MOST_ROWS M_InvalidStep (of_decide_eq_true ex_t1) (anK hex hin "InvalidStep" (by decide +kernel)).xf (naK_at hex hin "InvalidStep" (by decide +kernel)) (er_InvalidText TO hex hin) M_InvalidText
  have B_read := FunD.bindsN (ps := ["text"]) FS0 fun _ _ _ _ _ _ us hl => match us, hl with | [_], _ => rfl
  have G_spoilt := ok_spoilt (fun_of F10) G_pull T1 G_of T2 m_len
  have G_lines := ok_reader_lines (P := Pr) (w := w) (base := base) (fun_of F11) m_str
  exact ok_law (fun_of F12) G_box T0 G_pull T1 G_of T2 G_words T3 G_plan T9 G_lines T11 G_spoilt T10 G_same T4 G_got T6 G_all_got T7 TB_law M_Reader
    G_read SM_Reader_read B_read m_range m_len m_str
end LW
open PySem PySem.W PySem.Calls PyProof.Rows
theorem PySem.Challenge.cw_oncethrough_k33_wrong_reader_pages_holds : PySem.Challenge.rw_oncethrough_k33_wrong_reader_pages.Holds := by
  w_on; o_law
  refine HandSHeadRun.head_any (r := LW.Rw) (q := view LW.Rw.prog [44]) (H := LW.hk) (ob := LW.ob) (M := 20000) (loose := LW.loose) (d := HandSHeadRun.topDef LW.Rw.prog 44) (kwd := []) LW.ob_eq
    (by kernel_rfl) (fun s => by kernel_rfl) LW.run (by kernel_rfl) (by kernel_rfl) (by kernel_rfl) (by rfl) (by first | assumption | decide +kernel) (by decide +kernel) ⟨rfl, rfl, rfl, rfl, rfl, by decide +kernel⟩ ?hw ?hc
  case hw => w_witness2
  case hc =>
    refine LamX.walk_ofTsE (l := PySem.Challenge.rw_oncethrough_k33_wrong_reader_pages) (n := 63) (k := 14) (x := "_law_script") (CX := fun _ => L2.CX0) rfl (by decide) (by kernel_rfl) ⟨rfl, by decide, by decide⟩ ?F (fun _ _ _ _ _ z => z)
    intro w mg fa h Y G hmg0
    obtain ⟨K, KX, c⟩ := Y
    have hmg : mg ("law" : PySem.Str) = some (.ref fa) := by
      have e : (HandSHeadRun.topDef LW.Rw.prog 44).name = ("law" : PySem.Str) := by kernel_rfl
      rw [← e]
      exact hmg0
    exact ⟨K, KX, LW.facts (w := w) KX G hmg c⟩
#print axioms PySem.Challenge.cw_oncethrough_k33_wrong_reader_pages_holds
