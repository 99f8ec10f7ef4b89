import PyProof.Rows.All
import Wide.All
import OpenK.AllK
import Wide.FinOn
import HandS.Exc
import HandS.ExcOwn
import HandS.Ends
import KE.KExcPX
import KE.KExcInit
import KE.KExcMake
import KE.KExcSuper
import KE.KSuper
import HandS.ForMost
import HandS.IsInst
import HandS.Lambda
import KE.KDflt
import HandS.Flow
import HandS.CallSlots
import HandS.Deep
import PyProof.StrBlock2
import KE.GoesMore
import KE.GoesZip
import KE.GoesEnum
import HandS.MakeKwOnly
import HandS.ClsMeth
import HandS.ExcIs
import HandS.ExcField
import HandS.HeadHook4
import PySem.Challenge.RW_oncethrough_k16_ways_hold
import HandS.Codes
import HandS.Style
import HandS.ExcBuiltin
import HandS.Conv
import HandS.WordsExc
import KE.KTryMore
import HandS.HotCalls
import HandS.Star
import HandS.OwnEq
import HandS.Strs
import OpenK.KMeth
import HandS.Text
import KE.KListMore
import HandS.DictComp
import HandS.More
import HandS.TupSets
import HandS.SortOrd
import OpenK.KWalk
import HandS.Iter
import PyProof.DictUpdate
import PyProof.MeetsSeq2
import PyProof.DictDisplay
import KE.KEqDict
import PyProof.ByEval2
import KE.KStateDown
import Lean
import HandS.Words
import HandS.Defaults
import HandS.Head0
import HandS.Head1
import HandS.Head2
import HandS.HeadEnd
import HandS.HeadHook1
import HandS.HeadHook2
import HandS.HeadWalk
set_option Elab.async false
set_option linter.all false
set_option maxRecDepth 100000
set_option maxHeartbeats 4000000
/-! Error classes whose __init__ says super().__init__(..), over ValueError, LookupError, IndexError: on the heap. -/
namespace PySem
namespace XO
open Builtin Builtin.ObjectAttr PySem.W PySem.Calls PyProof.Rows PySem.HandSPX
section
variable {prog : Program} {w : World} {A : Around} {E : Value → Shared → Prop} {R : Result → Shared → Prop} {hp : Heap} {g : Array GenState} {d : Drawn} {t : Nat} {os : OsState} {B : String} {bmB : List Value}
/-- self.name = v, no dict yet -/
theorem osa_new {K : W.Frag} {name : Str} {tk : Tok} {v : Value} {x C : Addr} {fv : Array Value} {cd : ClassData} (ST : StoreFacts B bmB "object.__setattr__" "object")
    (X : K.In hp) (hx : hp.get? x = some { cls := .ref C, data := .fields fv }) (hcd : W.clsIn K C = some cd) (hm : excTail bmB cd.mro = true) (ne : cd.mro.isEmpty = false) (hh : cd.hasDict = true) (ha : W.findIn K (.ref C) name = some none)
    (hq : ∀ h' tk' dx, (∀ b o, b ≠ x → hp.get? b = some o → h'.get? b = some o) → hp.objs.size ≤ dx → dx ≠ x → h'.get? x = some { cls := .ref C, dict := some dx, data := .fields fv } →
      h'.Ns1 dx (fun y => if y = name then some v else none) → R (.ok (.ret .none)) ⟨h', g, d, tk', os⟩) :
    codeAny (model prog w) A (.call (.builtin "object.__setattr__") ⟨[.ref x, .str name tk, v], []⟩) R ⟨hp, g, d, t, os⟩ := by
  have I : W.InstAt hp x { cls := .ref C, data := .fields fv } C none := ⟨hx, rfl, rfl, trivial⟩
  have SF := F.store_object
  have hob : cd.mro.contains (.type "object") = true := (excTail_contains "object" _ hm).trans ST.hasOwner
  have hxs : x ≠ hp.objs.size := Nat.ne_of_lt (Heap.lt_size hx)
  have sub : W.Looks (model prog w) hp (isInstance (.ref x) (.type "object")) true := I.type.andThen (W.looks_mroIn X (by unfold W.mroIn; rw [hcd, Option.bind_some, if_neg (by rw [ne]; decide), hob]))
  refine codeAny_call_builtin SF.slot.plain SF.entry (@W.check_slot (model prog w) _ _ ⟨hp, g, d, t, os⟩ "object.__setattr__" "object" "__setattr__" (.ref x) [.str name tk, v] [] _ SF.kind SF.split sub (SF.args (.ref x) (.str name tk) v) ?_)
  have hmr : W.Looks (model prog w) hp (mroOf (.ref C)) cd.mro := (W.looks_clsIn X hcd).andThen .now
  have L3 : W.Looks (model prog w) hp (storeTaker? none) none := .now
  have hcls : W.Looks (model prog w) hp (classData C) cd := W.looks_clsIn X hcd
  rw [W.osa_eq, refuse_eq]
  refine wpAny_bind (wpAny_bind (I.type.at (wpAny_bind (hmr.at ?_))))
  rw [excTail_pass _ (ST.passes _) _ hm]
  refine wpAny_pure (wpAny_bind (I.type.at (wpAny_bind ((W.looks_findIn X ha).at (wpAny_bind (L3.at ?_))))))
  show wpAny _ _ (storeInOwnDict (.ref x) (.ref C) (.str name tk) name v false) _ _ _
  obtain ⟨nm, bs, mro, ns, qn, hd, sn, sb, ab, col, del⟩ := cd
  dsimp only at hh
  subst hh
  unfold storeInOwnDict ownDictForStores
  repeat (first | with_reducible refine store_in_new ?_ ?_ | with_reducible refine wpAny_loadPart_at hx ?_ | with_reducible refine hcls.at ?_ | wp_step)
  · exact ⟨_, #[], _, (Heap.get?_update_ne _ _ _ _ hxs.symm).trans (Heap.get?_push_at rfl rfl), rfl, fun e he => absurd he (by simp), fun _ => rfl⟩
  · intro h' tk' hn' hs
    have hx₁ : (hp.push { cls := .type "dict", data := .dict #[] }).get? x = some { cls := .ref C, data := .fields fv } := Heap.get?_push_of_some _ hx
    refine hq h' tk' hp.objs.size (fun b o hb ho => ?_) (Nat.le_refl _) hxs.symm ?_ hn'
    · exact (hs.2 b (Nat.ne_of_lt (Heap.lt_size ho))).trans ((Heap.get?_update_ne _ _ _ _ hb).trans (Heap.get?_push_of_some _ ho))
    · exact (hs.2 x hxs).trans (Heap.get?_update_self _ hx₁ rfl)
theorem store_old {M : Model} {dx : Addr} {name : Str} {tk : Tok} {v : Value} {m0 : Str → Option Value} {ns : List Str} {Q : Fin → Shared → Prop} (hn : hp.Ns1 dx m0) (hw : Within m0 ns) (hz : ns.length ≤ 1000)
    (hq : ∀ h' tk', h'.Ns1 dx (fun y => if y = name then some v else m0 y) → Heap.SameBut dx hp h' → Q (.done (.ret .none)) ⟨h', g, d, tk', os⟩) :
    wpAny M A (storeInDict dx (.str name tk) name v) Q E ⟨hp, g, d, t, os⟩ := by
  unfold storeInDict newKeyGuard
  refine wpAny_bind (wpAny_pure (wpAny_bind (wpAny_nsSet1 hn fun h' hn' hs => ?_)))
  obtain ⟨oD, esD, epD, hoD, hdD, hcD⟩ := hn'.count (Within.cons name v hw)
  refine wpAny_bind (wpAny_lookBehind hoD (by rw [hdD]; exact pastItsLine_dict (Nat.le_trans hcD (by rw [List.length_cons, sizeLine_eq]; omega))) ?_)
  wp_walk
  exact hq h' _ hn' hs
/-- a further field -/
theorem osa_more {K : W.Frag} {name : Str} {tk : Tok} {v : Value} {x C dx : Addr} {fv : Array Value} {cd : ClassData} {m0 : Str → Option Value} {nl : List Str} (ST : StoreFacts B bmB "object.__setattr__" "object")
    (X : K.In hp) (hx : hp.get? x = some { cls := .ref C, dict := some dx, data := .fields fv }) (hns : hp.Ns1 dx m0) (hw : Within m0 nl) (hz : nl.length ≤ 1000) (hcd : W.clsIn K C = some cd) (hm : excTail bmB cd.mro = true) (ne : cd.mro.isEmpty = false) (hh : cd.hasDict = true)
    (ha : W.findIn K (.ref C) name = some none)
    (hq : ∀ h' tk', (∀ b o, b ≠ dx → hp.get? b = some o → h'.get? b = some o) → h'.Ns1 dx (fun y => if y = name then some v else m0 y) → R (.ok (.ret .none)) ⟨h', g, d, tk', os⟩) :
    codeAny (model prog w) A (.call (.builtin "object.__setattr__") ⟨[.ref x, .str name tk, v], []⟩) R ⟨hp, g, d, t, os⟩ := by
  obtain ⟨oD, esD, epD, hoD, hdD, _⟩ := hns.count hw
  have I : W.InstAt hp x { cls := .ref C, dict := some dx, data := .fields fv } C (some oD) := ⟨hx, rfl, rfl, hoD⟩
  have SF := F.store_object
  have hob : cd.mro.contains (.type "object") = true := (excTail_contains "object" _ hm).trans ST.hasOwner
  have sub : W.Looks (model prog w) hp (isInstance (.ref x) (.type "object")) true := I.type.andThen (W.looks_mroIn X (by unfold W.mroIn; rw [hcd, Option.bind_some, if_neg (by rw [ne]; decide), hob]))
  refine codeAny_call_builtin SF.slot.plain SF.entry (@W.check_slot (model prog w) _ _ ⟨hp, g, d, t, os⟩ "object.__setattr__" "object" "__setattr__" (.ref x) [.str name tk, v] [] _ SF.kind SF.split sub (SF.args (.ref x) (.str name tk) v) ?_)
  have hmr : W.Looks (model prog w) hp (mroOf (.ref C)) cd.mro := (W.looks_clsIn X hcd).andThen .now
  have L3 : W.Looks (model prog w) hp (storeTaker? none) none := .now
  have hcls : W.Looks (model prog w) hp (classData C) cd := W.looks_clsIn X hcd
  rw [W.osa_eq, refuse_eq]
  refine wpAny_bind (wpAny_bind (I.type.at (wpAny_bind (hmr.at ?_))))
  rw [excTail_pass _ (ST.passes _) _ hm]
  refine wpAny_pure (wpAny_bind (I.type.at (wpAny_bind ((W.looks_findIn X ha).at (wpAny_bind (L3.at ?_))))))
  show wpAny _ _ (storeInOwnDict (.ref x) (.ref C) (.str name tk) name v false) _ _ _
  obtain ⟨nm, bs, mro, ns, qn, hd, sn, sb, ab, col, del⟩ := cd
  dsimp only at hh
  subst hh
  unfold storeInOwnDict ownDictForStores
  repeat (first | with_reducible refine store_old hns hw hz ?_ | with_reducible refine wpAny_loadPart_at hx ?_ | with_reducible refine hcls.at ?_ | wp_step)
  intro h' tk' hn' hs
  exact hq h' tk' (fun b o hb ho => (hs.2 b hb).trans ho) hn'
/-- the bound __init__ of a built-in error, called -/
theorem call_mw {K : W.Frag} {i newId : String} {u x C t0 : Addr} {dv : Option Addr} {c2 : Value} {rest : List Value} {Q : Value → Shared → Prop} (X : K.In hp) (FB : ExcBaseFacts B newId i bmB) (q : excInitIn K C bmB newId = true) (hu : hp.get? u = some (kxs_mw i x)) (he : hp.get? x = some (excObj C t0 dv c2)) (hz : rest.length ≤ sizeLine)
    (fin : ∀ h', (∀ b o, b ≠ x → hp.get? b = some o → h'.get? b = some o) → h'.get? x = some (excObj C hp.objs.size dv c2) → Q .none ⟨h', g, d, t, os⟩) :
    wpAny (model prog w) A (call (.ref u) rest) Q E ⟨hp, g, d, t, os⟩ := by
  obtain ⟨nm, N', qn, bs, bm, hdct, sn, sub, ab, col, dd, k0, k1, k2, k3, k5, hC, hT⟩ := excInit_of X q
  refine wpAny_call (codeAny_of_tree ?_)
  show wpAny _ A.in1 (callAny (.ref u) ⟨rest, []⟩) _ _ _
  simp only [callAny]
  refine wpAny_bind (wpAny_load hu ?_)
  simp only [kxs_mw, show (Value.type "method-wrapper" == Value.type "method" || Value.type "method-wrapper" == Value.type "builtin_function_or_method" || Value.type "method-wrapper" == Value.type "method-wrapper") = true by decide, if_true]
  refine KFB.if_so (by decide) ?_
  refine wpAny_bind (check_bound_init FB.toExcCallFacts hC he rfl ?_)
  refine wpAny_bind (wpAny_pure (wpAny_pure ?_))
  refine ⟨plainId_quiet FB.init.plain _, codeAny_builtin FB.initEntry ?_⟩
  exact exc_init_tree (cls := .ref C) (t0 := t0) (dv := dv) (c2 := c2) (c3 := .none) (b4 := .bool false) he hz fun h' k e _ => fin h' k e
end
end XO
end PySem
set_option Elab.async false
set_option linter.all false
set_option maxRecDepth 100000
set_option maxHeartbeats 4000000
namespace PySem
namespace XO
open PySem.W PySem.Calls PyProof.Rows PySem.HandSPX L2
/-- what is said of a def __init__ of the class at D: its closure holds D -/
structure Ini (prog : Program) (K : Frag) (D f : Addr) (qual : Str) (ps : Arguments) (body : List Stmt) (scope : Scope) (cc cda : Addr) (fd : FuncData) : Prop where
  fn : ∃ (oc : Value) (od : Option Addr) (doc pm : Value) (an : Option Addr) (ct : Value) (osl : Array (Option Value)), fd = ksFn "__init__" qual ps body scope .none .none doc pm an (.ref cda) ct cc ∧ K.lookup f = some ⟨oc, od, .func fd, osl⟩
  cd : codeIn K (.ref cda) qual = true
  cell : ∃ cl cld csl, K.lookup cc = some ⟨cl, cld, .cell (some (.ref D)), csl⟩
  code : ∃ ccl cdd vs ccs file tf, K.lookup cda = some ⟨ccl, cdd, .fields vs, ccs⟩ ∧ vs[2]? = some (.str file tf) ∧ ((prog.main.file : Str) == file) = true
  self : ∃ ar, (ps.posonlyargs ++ ps.args).head? = some ar ∧ ar.arg = ("self" : Str)
  ks : scope.names.lookup ("super" : Str) = some .globalImplicit
  kc : scope.names.lookup ("__class__" : Str) = some .free
  ka : scope.names.lookup ("self" : Str) = some .local
  kd : scope.kind = .function
  nc : ∀ x ∈ scope.names, x.2 ≠ .cell
  co : scope.isCoroutine = false
  ge : scope.isGenerator = false
  ia : ∀ L, interactive (ksEnv qual scope L f (.ref cda) cc) = false
section
variable {prog : Program} {w : World} {A : Around} {E : Value → Shared → Prop} {K : Frag} {mg : Str → Option Value} {base : Heap} {hh : Heap} {g : Array GenState} {d : Drawn} {t : Nat} {os : OsState}
variable {D C f cc cda x L : Addr} {qual : Str} {ps : Arguments} {body : List Stmt} {scope : Scope} {fd : FuncData} {m : Str → Option Value}
/-- super() -/
theorem sup_node (T : Ini prog K D f qual ps body scope cc cda fd) (Md : Mod K mg base) (bk : ∀ b o, base.get? b = some o → hh.get? b = some o) (hms : mg "super" = none) (htop : (prog.main.scope.names.lookup ("super" : Str)).isSome = false)
    {cdD : ClassData} {ox : Obj} {od : Option Obj} (hD : clsIn K D = some cdD) (hsub : mroIn K C (.ref D) = some true) (hn : hh.Ns L m) (hv : m "self" = some (.ref x)) (I : InstAt hh x ox C od) {p0 p1 : Pos} {whole : Sem Value} {Q : Value → Shared → Prop} {bd : List Stmt}
    (h : ∀ h', h'.get? hh.objs.size = some (ks_superObj D x C) → (∀ b o, hh.get? b = some o → h'.get? b = some o) → Q (.ref hh.objs.size) ⟨h', g, d, t, os⟩) :
    _root_.PySem.wpAt (model prog w) A (.func bd (ksEnv qual scope L f (.ref cda) cc)) (attributeBase (.Call (.Name "super" p0) [] [] p1) "__init__" (ksEnv qual scope L f (.ref cda) cc) whole) Q E ⟨hh, g, d, t, os⟩ := by
  have X : K.In hh := Md.kin.keeps bk
  obtain ⟨oc, odf, doc, pm, an, ct, osl, rfl, hf⟩ := T.fn
  obtain ⟨cl, cld, csl, hcell⟩ := T.cell
  obtain ⟨ccl, cdd, vs, ccs, file, tf, hcode, hvs, hfile⟩ := T.code
  obtain ⟨ar, har, ear⟩ := T.self
  obtain ⟨mb, hb1, hb2⟩ := Md.blt
  obtain ⟨oD, hD1, hD2⟩ : ∃ oD, hh.get? D = some oD ∧ oD.data = .cls cdD := by
    unfold clsIn at hD
    split at hD
    · rename_i c d cd' sl ho
      cases hD
      exact ⟨_, X _ _ ho, rfl⟩
    · cases hD
  refine ks_wpAt_super_base (env := ksEnv qual scope L f (.ref cda) cc) T.ks T.kc rfl rfl (X _ _ hf) rfl har rfl (X _ _ hcode) rfl hvs hfile htop ?_
  refine ks_loadName_global T.kd T.ks (loadGlobal_builtin (env := ksEnv qual scope L f (.ref cda) cc) (Md.glob.keeps bk) hms (hb1.keeps bk) ((hb2 _ (by decide)).trans (by decide +kernel)) ⟨rfl, ?_⟩)
  refine wpAny_loadName_free T.kd T.kc rfl ⟨_, X _ _ hcell, rfl⟩ ?_
  rw [ear]
  refine wpAny_loadName_local T.kd T.ka hn hv ?_
  refine ks_wpAny_isType_cls hD1 hD2 ⟨rfl, ?_⟩
  refine ks_wpAny_call_super hD1 hD2 I.at_ I.cls (fun c e => ?_) (looks_mroIn X hsub) (fun h' e k => h h' e k)
  have := I.no
  unfold notCls at this
  rw [e] at this
  exact Bool.noConfusion this
/-- an argument: told by the frame's names alone -/
def Sim (prog : Program) (w : World) (A : Around) (env : Env) (L : Addr) (m : Str → Option Value) (e : Expr) (P : Value → Prop) : Prop := ∀ (s : Shared) (Q : Value → Shared → Prop) (E : Value → Shared → Prop), s.heap.Ns L m → (∀ v tk, P v → Q v { s with toks := tk }) → wpAny (model prog w) A (eval e env) Q E s
theorem sim_name {name : Str} {a : Addr} {cd : Value} {cl : List (Str × Addr)} {y : Str} {v : Value} {pos : Pos} (hk : scope.kind = .function) (hl : scope.names.lookup y = some .local) (hv : m y = some v) (hd : (y == ("__debug__" : Str)) = false) :
    Sim prog w A (envX name scope L a cd cl) L m (.Name y pos) (· = v) := fun s Q E hn h => wpAny_Name (wpAny_loadName_local hk hl hn hv (h v s.toks rfl)) hd
theorem sim_str {env : Env} {y : Str} {k : Nat} {pos : Pos} : Sim prog w A env L m (.Constant (.str y) k pos) (fun v => ∃ t, v = .str y t) := fun s Q E _ h => wpAny_Constant_str (h _ _ ⟨_, rfl⟩)
/-- super().__init__(e), the one of a built-in error -/
theorem sup_mw {B i newId : String} {bmB : List Value} (KF : KxsFacts B i) (FB : ExcBaseFacts B newId i bmB) (qI : excInitIn K C bmB newId = true) (hno : nsIn K cStatics "thirdparty.any" = some none)
    (hm : ks_superIn K C D "__init__" = some (some (.builtin i))) (hB : subIn K (.ref C) (.type B) = some true)
    (T : Ini prog K D f qual ps body scope cc cda fd) (Md : Mod K mg base) (bk : ∀ b o, base.get? b = some o → hh.get? b = some o) (hms : mg "super" = none) (htop : (prog.main.scope.names.lookup ("super" : Str)).isSome = false)
    {cdD : ClassData} {t0 : Addr} (hD : clsIn K D = some cdD) (hsub : mroIn K C (.ref D) = some true) (hn : hh.Ns L m) (hv : m "self" = some (.ref x)) (hx : hh.get? x = some (excObj C t0 none .none)) {p0 p1 p2 p3 : Pos} {e : Expr} {P : Value → Prop} {Q : Value → Shared → Prop} {bd : List Stmt} {pl : Sem Bool}
    (hxb : base.get? x = none) (hxL : L ≠ x) (he : Sim prog w A (ksEnv qual scope L f (.ref cda) cc) L m e P) (hse : starEach [e] (ksEnv qual scope L f (.ref cda) cc) = (false, eval e (ksEnv qual scope L f (.ref cda) cc)) :: starEach [] (ksEnv qual scope L f (.ref cda) cc))
    (hev : eval (.Call (.Attribute (.Call (.Name "super" p0) [] [] p1) "__init__" p2) [e] [] p3) (ksEnv qual scope L f (.ref cda) cc) = (do
      let ov ← attributeBase (.Call (.Name "super" p0) [] [] p1) "__init__" (ksEnv qual scope L f (.ref cda) cc) (eval (.Call (.Name "super" p0) [] [] p1) (ksEnv qual scope L f (.ref cda) cc))
      standAt p2.atName
      let (f2, first) ← holding [ov] (getMethod ov "__init__" pl)
      callWith p3 f2 first (backTo p3 (starEach [e] (ksEnv qual scope L f (.ref cda) cc))) []))
    (h : ∀ h' tk t1, (∀ b o, b ≠ x → hh.get? b = some o → h'.get? b = some o) → h'.get? x = some (excObj C t1 none .none) → Q .none ⟨h', g, d, tk, os⟩) :
    _root_.PySem.wpAt (model prog w) A (.func bd (ksEnv qual scope L f (.ref cda) cc)) (eval (.Call (.Attribute (.Call (.Name "super" p0) [] [] p1) "__init__" p2) [e] [] p3) (ksEnv qual scope L f (.ref cda) cc)) Q E ⟨hh, g, d, t, os⟩ := by
  have I : InstAt hh x (excObj C t0 none .none) C none := ⟨hx, rfl, rfl, trivial⟩
  refine ks_wpAt_MethodCall ?_ hev
  refine sup_node T Md bk hms htop hD hsub hn hv I fun h1 e1 k1 => ?_
  have X1 : K.In h1 := (Md.kin.keeps bk).keeps k1
  have I1 : InstAt h1 x (excObj C t0 none .none) C none := ⟨k1 _ _ hx, rfl, rfl, trivial⟩
  cases hc : clsIn K C with
  | none => unfold ks_superIn at hm; rw [hc] at hm; cases hm
  | some cd =>
    unfold ks_superIn at hm
    rw [hc] at hm
    refine kxs_getMethod KF e1 (looks_opaque X1 hno) (l₀ := cd.mro) (fun A Q E s k q => wpAny_bind ((looks_clsIn X1 hc) A _ E s k (wpAny_pure q))) rfl X1 hm (I1.type.andThen (looks_subIn X1 hB)) (ks_ne X1 I1 hc) rfl ?_
    have k2 : ∀ b o, h1.get? b = some o → (h1.push (kxs_mw i x)).get? b = some o := fun b o z => Heap.get?_push_of_some _ z
    have hu : (h1.push (kxs_mw i x)).get? h1.objs.size = some (kxs_mw i x) := Heap.get?_push_at rfl rfl
    rw [hse]
    refine kxs_callWith (i := i) (x := x) rfl (evalArgs_plain (spliced_cons (he _ _ _ ((hn.keeps k1).keeps k2) fun v tk pv => ?_)))
    refine spliced_nil ⟨hu, ?_⟩
    refine call_mw ((X1.keeps k2)) FB qI hu (k2 _ _ (k1 _ _ hx)) (by rw [sizeLine_eq]; exact (by decide : 1 ≤ 16777216)) fun h' k3 e3 => ?_
    exact h h' _ _ (fun b o hb z => k3 b o hb (k2 _ _ (k1 _ _ z))) e3
end
end XO
end PySem
set_option Elab.async false
set_option linter.all false
set_option maxRecDepth 100000
set_option maxHeartbeats 4000000
namespace PySem
namespace XO
open PySem.W PySem.Calls PyProof.Rows PySem.HandSPX L2
/-- what is said of an error class -/
structure ExC (K : Frag) (C : Addr) (B newId i : String) (bmB : List Value) : Prop where
  kf : KxsFacts B i
  fb : ExcBaseFacts B newId i bmB
  st : StoreFacts B bmB "object.__setattr__" "object"
  qI : excInitIn K C bmB newId = true
  cd : ∃ cd, clsIn K C = some cd ∧ excTail bmB cd.mro = true ∧ cd.mro.isEmpty = false ∧ cd.hasDict = true
  sa : findIn K (.ref C) "__setattr__" = some (some (.builtin "object.__setattr__"))
  sB : subIn K (.ref C) (.type B) = some true
  no : nsIn K cStatics "thirdparty.any" = some none
abbrev supC (p0 p1 p2 p3 : Pos) (e : Expr) : Expr := .Call (.Attribute (.Call (.Name "super" p0) [] [] p1) "__init__" p2) [e] [] p3
abbrev setS (f : Str) (q0 q1 q2 : Pos) (e : Expr) : Stmt := .Assign [.Attribute (.Name "self" q0) f q1] e q2
abbrev exq (C t1 : Addr) (d : Option Addr) : Obj := { cls := .ref C, dict := d, data := .fields #[.ref t1, .none, .none, .none, .bool false, .none] }
section
variable {prog : Program} {w : World} {A : Around} {E : Value → Shared → Prop} {K : Frag} {mg : Str → Option Value} {base : Heap} {s : Shared} {R : Result → Shared → Prop}
variable {D C f cc cda x L : Addr} {qual : Str} {ps : Arguments} {body : List Stmt} {scope : Scope} {fd : FuncData} {m : Str → Option Value} {B newId i : String} {bmB : List Value}
/-- the frame of an __init__ -/
theorem init_frame (T : Ini prog K D f qual ps body scope cc cda fd) (X : K.In s.heap) (hlim : s.heap.NoLimit) (hroom : A.depth < recursionLimit) {args : Args} {binds : List (Str × Value)} (hbind : BindsTo s fd args binds) (hloc : ∀ y ∈ binds, scope.names.lookup y.1 = some .local)
    (h : ∀ h₀, h₀.Ns s.heap.objs.size (fun y => binds.reverse.lookup y) → (∀ b o, s.heap.get? b = some o → h₀.get? b = some o) →
      _root_.PySem.wpAt (model prog w) (A.deeper (ksEnv qual scope s.heap.objs.size f (.ref cda) cc)) (.func body (ksEnv qual scope s.heap.objs.size f (.ref cda) cc)) (execs body (ksEnv qual scope s.heap.objs.size f (.ref cda) cc)) (fun fl s' => R (.ok (.ret (match fl with | .ret v => v | _ => .none))) s')
        (fun e s' => wpAny (model prog w) (A.deeper (ksEnv qual scope s.heap.objs.size f (.ref cda) cc)) (leaving (ksEnv qual scope s.heap.objs.size f (.ref cda) cc) e) (fun _ s'' => R (.error e) s'') (fun e' s'' => R (.error e') s'') s')
        { s with heap := h₀, toks := s.toks + binds.length }) : codeAny (model prog w) A (.call (.ref f) args) R s := by
  obtain ⟨oc, odf, doc, pm, an, ct, osl, rfl, hf⟩ := T.fn
  exact ks_codeAny_call_defAt hroom (X _ _ hf) rfl hlim (codeRec_of X T.cd) rfl hbind T.nc hloc h T.co T.ge T.kd
/-- self.f = e, the first field -/
theorem set_first (EC : ExC K C B newId i bmB) {name : Str} (na : findIn K (.ref C) name = some none) {env : Env} {hh : Heap} {g : Array GenState} {d : Drawn} {t : Nat} {os : OsState} {t1 : Addr} {P : Value → Prop} {e : Expr} {q0 q1 q2 : Pos} {rest : List Stmt} {Q : Flow → Shared → Prop} (X : K.In hh) (hn : hh.Ns L m) (hx : hh.get? x = some (exq C t1 none))
    (he : Sim prog w A env L m e P) (hs : Sim prog w A env L m (.Name "self" q0) (· = .ref x)) (hsw : swapsWith e (some (.Attribute (.Name "self" q0) name q1)) q2.line env = pure false)
    (h : ∀ h' tk dx v, P v → (∀ b o, b ≠ x → hh.get? b = some o → h'.get? b = some o) → hh.objs.size ≤ dx → dx ≠ x → h'.get? x = some (exq C t1 (some dx)) → h'.Ns1 dx (fun y => if y = name then some v else none) → wpAny (model prog w) A (execs rest env) Q E ⟨h', g, d, tk, os⟩) :
    wpAny (model prog w) A (execs (setS name q0 q1 q2 e :: rest) env) Q E ⟨hh, g, d, t, os⟩ := by
  obtain ⟨cd, hcd, ht, hne, hd⟩ := EC.cd
  refine wpAny_execs_cons (plainObj_wpAny_Assign_Attribute ?_ hsw)
  refine he _ _ _ hn fun v tk pv => hs _ _ _ hn fun u tk2 eu => ?_
  subst eu
  refine set_plain X (ox := exq C t1 none) (od := none) ⟨hx, rfl, rfl, trivial⟩ EC.sa ?_
  exact osa_new EC.st X hx hcd ht hne hd na fun h' tk' dx k b ne e1 n1 => h h' tk' dx v pv k b ne e1 n1
/-- a further field -/
theorem set_more (EC : ExC K C B newId i bmB) {name : Str} (na : findIn K (.ref C) name = some none) {env : Env} {hh : Heap} {g : Array GenState} {d : Drawn} {t : Nat} {os : OsState} {t1 dx : Addr} {P : Value → Prop} {e : Expr} {q0 q1 q2 : Pos} {rest : List Stmt} {Q : Flow → Shared → Prop} {m0 : Str → Option Value} {nl : List Str} (X : K.In hh) (hn : hh.Ns L m) (hx : hh.get? x = some (exq C t1 (some dx)))
    (hns : hh.Ns1 dx m0) (hw : Within m0 nl) (hz : nl.length ≤ 1000) (he : Sim prog w A env L m e P) (hs : Sim prog w A env L m (.Name "self" q0) (· = .ref x)) (hsw : swapsWith e (some (.Attribute (.Name "self" q0) name q1)) q2.line env = pure false)
    (h : ∀ h' tk v, P v → (∀ b o, b ≠ dx → hh.get? b = some o → h'.get? b = some o) → h'.Ns1 dx (fun y => if y = name then some v else m0 y) → wpAny (model prog w) A (execs rest env) Q E ⟨h', g, d, tk, os⟩) :
    wpAny (model prog w) A (execs (setS name q0 q1 q2 e :: rest) env) Q E ⟨hh, g, d, t, os⟩ := by
  obtain ⟨cd, hcd, ht, hne, hd⟩ := EC.cd
  obtain ⟨oD, esD, epD, hoD, hdD, _⟩ := hns.count hw
  refine wpAny_execs_cons (plainObj_wpAny_Assign_Attribute ?_ hsw)
  refine he _ _ _ hn fun v tk pv => hs _ _ _ hn fun u tk2 eu => ?_
  subst eu
  refine set_plain X (ox := exq C t1 (some dx)) (od := some oD) ⟨hx, rfl, rfl, hoD⟩ EC.sa ?_
  exact osa_more EC.st X hx hns hw hz hcd ht hne hd na fun h' tk' k n1 => h h' tk' v pv k n1
/-- what an __init__ leaves: of the object at x and its dict -/
structure Done (h h' : Heap) (x C dx : Addr) (mA : Str → Option Value) : Prop where
  keep : ∀ b o, b ≠ x → h.get? b = some o → h'.get? b = some o
  obj : ∃ t1, h'.get? x = some (exq C t1 (some dx))
  big : h.objs.size ≤ dx
  ne : dx ≠ x
  ns : h'.Ns1 dx mA
/-- super().__init__(e); self.code = e2 -/
theorem base_init (EC : ExC K C B newId i bmB) (na : findIn K (.ref C) "code" = some none) {p0 p1 p2 p3 p4 q0 q1 q2 : Pos} {e e2 : Expr} (T : Ini prog K D f qual ps [.Expr (supC p0 p1 p2 p3 e) p4, setS "code" q0 q1 q2 e2] scope cc cda fd) (Md : Mod K mg base) (bk : ∀ b o, base.get? b = some o → s.heap.get? b = some o) (hms : mg "super" = none) (htop : (prog.main.scope.names.lookup ("super" : Str)).isSome = false)
    (hm : ks_superIn K C D "__init__" = some (some (.builtin i))) {cdD : ClassData} (hD : clsIn K D = some cdD) (hsub : mroIn K C (.ref D) = some true) (hlim : s.heap.NoLimit) (hroom : A.depth < recursionLimit) {args : Args} {binds : List (Str × Value)} (hbind : BindsTo s fd args binds) (hloc : ∀ y ∈ binds, scope.names.lookup y.1 = some .local)
    (hself : (binds.reverse.lookup ("self" : Str)) = some (.ref x)) {t0 : Addr} (hx : s.heap.get? x = some (excObj C t0 none .none)) (hxb : base.get? x = none) {P P2 : Value → Prop} {pl : Addr → Sem Bool}
    (he : ∀ L, Sim prog w (A.deeper (ksEnv qual scope L f (.ref cda) cc)) (ksEnv qual scope L f (.ref cda) cc) L (fun y => binds.reverse.lookup y) e P) (he2 : ∀ L, Sim prog w (A.deeper (ksEnv qual scope L f (.ref cda) cc)) (ksEnv qual scope L f (.ref cda) cc) L (fun y => binds.reverse.lookup y) e2 P2)
    (hse : ∀ L, starEach [e] (ksEnv qual scope L f (.ref cda) cc) = (false, eval e (ksEnv qual scope L f (.ref cda) cc)) :: starEach [] (ksEnv qual scope L f (.ref cda) cc))
    (hev : ∀ L, eval (supC p0 p1 p2 p3 e) (ksEnv qual scope L f (.ref cda) cc) = (do
      let ov ← attributeBase (.Call (.Name "super" p0) [] [] p1) "__init__" (ksEnv qual scope L f (.ref cda) cc) (eval (.Call (.Name "super" p0) [] [] p1) (ksEnv qual scope L f (.ref cda) cc))
      standAt p2.atName
      let (f2, first) ← holding [ov] (getMethod ov "__init__" (pl L))
      callWith p3 f2 first (backTo p3 (starEach [e] (ksEnv qual scope L f (.ref cda) cc))) []))
    (hsw1 : ∀ L, swapsWith (supC p0 p1 p2 p3 e) none p4.line (ksEnv qual scope L f (.ref cda) cc) = pure false) (hsw2 : ∀ L, swapsWith e2 (some (.Attribute (.Name "self" q0) "code" q1)) q2.line (ksEnv qual scope L f (.ref cda) cc) = pure false)
    (hq : ∀ h' tk dx v, P2 v → Done s.heap h' x C dx (fun y => if y = "code" then some v else none) → R (.ok (.ret .none)) { s with heap := h', toks := tk }) :
    codeAny (model prog w) A (.call (.ref f) args) R s := by
  have X : K.In s.heap := Md.kin.keeps bk
  refine init_frame T X hlim hroom hbind hloc fun h0 hn k0 => ?_
  obtain ⟨hp, g, d, tk0, os⟩ := s
  have hxL : hp.objs.size ≠ x := Nat.ne_of_gt (Heap.lt_size hx)
  refine ks_wpAt_execs_cons (ks_wpAt_Expr_any ?_ (T.ia _) (hsw1 _))
  refine sup_mw EC.kf EC.fb EC.qI EC.no hm EC.sB T Md (fun b o z => k0 b o (bk b o z)) hms htop hD hsub hn hself (k0 _ _ hx) hxb hxL (he _) (hse _) (hev _) fun h1 tk1 t1 k1 e1 => ?_
  show _root_.PySem.wpAt _ _ _ (execs _ _) _ _ _
  refine wpAt_of_wpAny ?_
  have X1 : K.In h1 := fun a o z => k1 a o (fun ea => by
    have := Md.kin _ _ z
    rw [ea, hxb] at this; cases this) (k0 _ _ (X _ _ z))
  have hn1 : h1.Ns hp.objs.size (fun y => binds.reverse.lookup y) := hn.at fun o z => k1 _ o hxL z
  refine set_first EC na X1 hn1 e1 (he2 _) (sim_name T.kd T.ka hself (by decide)) (hsw2 _) fun h2 tk2 dx v pv k2 b2 n2 e2 ns2 => ?_
  refine wpAny_execs_nil (hq h2 tk2 dx v pv ⟨fun b o hb z => k2 b o hb (k1 b o hb (k0 b o z)), ⟨t1, e2⟩, ?_, n2, ns2⟩)
  have z1 : hp.objs.size < h1.objs.size := hn1.lt
  exact Nat.le_of_lt (Nat.lt_of_lt_of_le z1 b2)
end
end XO
end PySem
set_option Elab.async false
set_option linter.all false
set_option maxRecDepth 100000
set_option maxHeartbeats 4000000
namespace PySem
namespace XO
open PySem.W PySem.Calls PyProof.Rows PySem.HandSPX L2
section
variable {prog : Program} {w : World} {A : Around} {E : Value → Shared → Prop} {K : Frag} {mg : Str → Option Value} {base : Heap} {hh : Heap} {g : Array GenState} {d : Drawn} {t : Nat} {os : OsState}
variable {D C f f2 cc cda x L : Addr} {qual : Str} {ps : Arguments} {body : List Stmt} {scope : Scope} {fd : FuncData} {m : Str → Option Value}
/-- super().__init__(e), the one of a class of the text -/
theorem sup_fn (hno : nsIn K cStatics "thirdparty.any" = some none) (hm : ks_superIn K C D "__init__" = some (some (.ref f2))) (ht : typeIn K (.ref f2) = some (.type "function")) (hfn : fnIn K f2 = true)
    (T : Ini prog K D f qual ps body scope cc cda fd) (Md : Mod K mg base) (bk : ∀ b o, base.get? b = some o → hh.get? b = some o) (hms : mg "super" = none) (htop : (prog.main.scope.names.lookup ("super" : Str)).isSome = false)
    {cdD : ClassData} {t0 : Addr} (hD : clsIn K D = some cdD) (hsub : mroIn K C (.ref D) = some true) (hn : hh.Ns L m) (hv : m "self" = some (.ref x)) (hx : hh.get? x = some (excObj C t0 none .none)) {p0 p1 p2 p3 : Pos} {e : Expr} {P : Value → Prop} {Q : Value → Shared → Prop} {bd : List Stmt} {pl : Sem Bool}
    (he : Sim prog w A (ksEnv qual scope L f (.ref cda) cc) L m e P) (hse : starEach [e] (ksEnv qual scope L f (.ref cda) cc) = (false, eval e (ksEnv qual scope L f (.ref cda) cc)) :: starEach [] (ksEnv qual scope L f (.ref cda) cc))
    (hev : eval (supC p0 p1 p2 p3 e) (ksEnv qual scope L f (.ref cda) cc) = (do
      let ov ← attributeBase (.Call (.Name "super" p0) [] [] p1) "__init__" (ksEnv qual scope L f (.ref cda) cc) (eval (.Call (.Name "super" p0) [] [] p1) (ksEnv qual scope L f (.ref cda) cc))
      standAt p2.atName
      let (f2, first) ← holding [ov] (getMethod ov "__init__" pl)
      callWith p3 f2 first (backTo p3 (starEach [e] (ksEnv qual scope L f (.ref cda) cc))) []))
    (h : ∀ h' tk v, P v → (∀ b o, hh.get? b = some o → h'.get? b = some o) → codeAny (model prog w) A (.call (.ref f2) ⟨[.ref x, v], []⟩) (fun r s' => match r with | .ok (.ret u) => Q u s' | .ok _ => False | .error e => E e s') ⟨h', g, d, tk, os⟩) :
    _root_.PySem.wpAt (model prog w) A (.func bd (ksEnv qual scope L f (.ref cda) cc)) (eval (supC p0 p1 p2 p3 e) (ksEnv qual scope L f (.ref cda) cc)) Q E ⟨hh, g, d, t, os⟩ := by
  have I : InstAt hh x (excObj C t0 none .none) C none := ⟨hx, rfl, rfl, trivial⟩
  refine ks_wpAt_MethodCall ?_ hev
  refine sup_node T Md bk hms htop hD hsub hn hv I fun h1 e1 k1 => ?_
  have X1 : K.In h1 := (Md.kin.keeps bk).keeps k1
  have I1 : InstAt h1 x (excObj C t0 none .none) C none := ⟨k1 _ _ hx, rfl, rfl, trivial⟩
  cases hc : clsIn K C with
  | none => unfold ks_superIn at hm; rw [hc] at hm; cases hm
  | some cd =>
    unfold ks_superIn at hm
    rw [hc] at hm
    obtain ⟨of, hof, hofc⟩ : ∃ of, h1.get? f2 = some of ∧ of.cls = .type "function" := by
      have ht' : (K.lookup f2).map (·.cls) = some (.type "function") := ht
      cases z : K.lookup f2 with
      | none => rw [z] at ht'; cases ht'
      | some of => rw [z] at ht'; exact ⟨of, X1 _ _ z, Option.some.inj ht'⟩
    refine ks_wpAny_getMethod_super e1 (looks_opaque X1 hno) (l₀ := cd.mro) (fun A Q E s k q => wpAny_bind ((looks_clsIn X1 hc) A _ E s k (wpAny_pure q))) rfl X1 hm hof hofc (ks_ne X1 I1 hc) rfl ?_
    have k2 : ∀ b o, h1.get? b = some o → (h1.push (methodObj (.ref f2) (.ref x))).get? b = some o := fun b o z => Heap.get?_push_of_some _ z
    have hu : (h1.push (methodObj (.ref f2) (.ref x))).get? h1.objs.size = some (methodObj (.ref f2) (.ref x)) := Heap.get?_push_at rfl rfl
    rw [hse]
    refine callWith_of (P := MethP K h1.objs.size f2 (.ref x)) (by first | rfl | decide) (keeps_M hfn) (evalArgs_plain (spliced_cons (he _ _ _ ((hn.keeps k1).keeps k2) fun v tk pv => ?_)))
    refine spliced_nil ⟨⟨hu, X1.keeps k2⟩, ?_⟩
    refine wpAny_call (codeAny_mono (method_call hu (h _ tk v pv fun b o z => k2 _ _ (k1 _ _ z))) fun r s' z => ?_)
    rcases r with e | (v | _ | _ | _) <;> first | exact z | exact z.elim
end
end XO
end PySem
set_option Elab.async false
set_option linter.all false
set_option maxRecDepth 100000
set_option maxHeartbeats 4000000
namespace PySem
namespace XO
open PySem.W PySem.Calls PyProof.Rows PySem.HandSPX L2
/-- an __init__ with the values us leaves the attributes that M tells -/
def InitOk (prog : Program) (w : World) (K : Frag) (mg : Str → Option Value) (base : Heap) (n : Nat) (C f : Addr) (us : List Value) (M : (Str → Option Value) → Prop) : Prop :=
  ∀ (A : Around) (R : Result → Shared → Prop) (s : Shared) (x t0 : Addr), (∀ b o, base.get? b = some o → s.heap.get? b = some o) → s.heap.NoLimit → A.depth + n < recursionLimit → s.heap.get? x = some (excObj C t0 none .none) → base.get? x = none →
    (∀ h' tk dx mA, M mA → Done s.heap h' x C dx mA → R (.ok (.ret .none)) { s with heap := h', toks := tk }) → codeAny (model prog w) A (.call (.ref f) ⟨.ref x :: us, []⟩) R s
/-- a made error -/
structure Made (h h' : Heap) (e C d : Addr) (mA : Str → Option Value) : Prop where
  keep : ∀ b o, h.get? b = some o → h'.get? b = some o
  new : h.objs.size ≤ e
  obj : ∃ t1, h'.get? e = some (exq C t1 (some d))
  dbig : h.objs.size ≤ d
  dne : d ≠ e
  ns : h'.Ns1 d mA
section
variable {prog : Program} {w : World} {A : Around} {E : Value → Shared → Prop} {K : Frag} {mg : Str → Option Value} {base : Heap} {s : Shared} {R : Result → Shared → Prop}
variable {C f f2 cc cda : Addr} {qual : Str} {ps : Arguments} {scope : Scope} {fd : FuncData} {B newId i : String} {bmB : List Value}
theorem made (EC : ExC K C B newId i bmB) {fI : Addr} {us : List Value} {M : (Str → Option Value) → Prop} {n : Nat} (Md : Mod K mg base) (iC : findIn K (.ref C) "__init__" = some (some (.ref fI))) (tC : typeIn K (.ref fI) = some (.type "function")) (hz : us.length ≤ sizeLine)
    (IO : InitOk prog w K mg base n C fI us M) (bk : ∀ b o, base.get? b = some o → s.heap.get? b = some o) (hlim : s.heap.NoLimit) (hroom : A.depth + (n + 1) < recursionLimit)
    (hq : ∀ h' tk e d mA, M mA → Made s.heap h' e C d mA → R (.ok (.ret (.ref e))) { s with heap := h', toks := tk }) : codeAny (model prog w) A (.call (.ref C) ⟨us, []⟩) R s := by
  have X : K.In s.heap := Md.kin.keeps bk
  obtain ⟨nm, N', qn, bs, bm, hdct, sn, sub, ab, col, dd, k0, k1, k2, k3, k5, hC, hT⟩ := excInit_of X EC.qI
  obtain ⟨hp, g, dr, tk, os⟩ := s
  have k : ∀ b o, hp.get? b = some o → ((hp.push (kdv_tup us)).push (excO C hp.objs.size)).get? b = some o := fun b o e => Heap.get?_push_of_some _ (Heap.get?_push_of_some _ e)
  have hget : ((hp.push (kdv_tup us)).push (excO C hp.objs.size)).get? (hp.objs.size + 1) = some (excO C hp.objs.size) := by heap_get
  have hxb : base.get? (hp.objs.size + 1) = none := by
    cases e : base.get? (hp.objs.size + 1) with
    | none => rfl
    | some o => exact absurd (Nat.lt_of_succ_lt (Heap.lt_size (bk _ _ e))) (Nat.lt_irrefl _)
  refine call_own EC.fb hT hC (looks_findIn X iC) (fun self => bind_fn X self tC) hz ?_
  refine IO _ _ ⟨(hp.push (kdv_tup us)).push (excO C hp.objs.size), g, dr, tk, os⟩ (hp.objs.size + 1) hp.objs.size (fun b o z => k b o (bk b o z)) (hlim.keeps k) (by show A.depth + 1 + n < recursionLimit; omega) hget hxb fun h' tk' dx mA hM ⟨k', hx, dn, dne, hns⟩ => ?_
  have old : ∀ b o, hp.get? b = some o → h'.get? b = some o := fun b o e => k' b o (Nat.ne_of_lt (Nat.lt_succ_of_lt (Heap.lt_size e))) (k b o e)
  have z : hp.objs.size + 1 + 1 ≤ dx := by
    first
      | (simpa only [Heap.size_push] using dn)
      | exact dn
      | (have q := dn; rw [Heap.size_push, Heap.size_push] at q; exact q)
  exact ⟨rfl, hq h' tk' (hp.objs.size + 1) dx mA hM ⟨old, Nat.le_succ _, hx, Nat.le_trans (Nat.le_trans (Nat.le_succ _) (Nat.le_succ _)) z, dne, hns⟩⟩
/-- super().__init__(e), then the rest -/
theorem sub_init (EC : ExC K C B newId i bmB) {us : List Value} {p0 p1 p2 p3 p4 : Pos} {e : Expr} {rest : List Stmt} (T : Ini prog K C f qual ps (.Expr (supC p0 p1 p2 p3 e) p4 :: rest) scope cc cda fd) (Md : Mod K mg base) (hms : mg "super" = none) (htop : (prog.main.scope.names.lookup ("super" : Str)).isSome = false)
    (hm : ks_superIn K C C "__init__" = some (some (.ref f2))) (ht : typeIn K (.ref f2) = some (.type "function")) (hfn : fnIn K f2 = true) (hsub : mroIn K C (.ref C) = some true) {bs : Value → List (Str × Value)} (hbind : ∀ s x, BindsTo s fd ⟨x :: us, []⟩ (bs x)) (hloc : ∀ x, ∀ y ∈ bs x, scope.names.lookup y.1 = some .local)
    (hself : ∀ x, ((bs x).reverse.lookup ("self" : Str)) = some x) {P : Value → Prop} {pl : Addr → Sem Bool} {M : (Str → Option Value) → Prop} {n : Nat}
    (he : ∀ A L x, Sim prog w A (ksEnv qual scope L f (.ref cda) cc) L (fun y => (bs x).reverse.lookup y) e P)
    (hse : ∀ L, starEach [e] (ksEnv qual scope L f (.ref cda) cc) = (false, eval e (ksEnv qual scope L f (.ref cda) cc)) :: starEach [] (ksEnv qual scope L f (.ref cda) cc))
    (hev : ∀ L, eval (supC p0 p1 p2 p3 e) (ksEnv qual scope L f (.ref cda) cc) = (do
      let ov ← attributeBase (.Call (.Name "super" p0) [] [] p1) "__init__" (ksEnv qual scope L f (.ref cda) cc) (eval (.Call (.Name "super" p0) [] [] p1) (ksEnv qual scope L f (.ref cda) cc))
      standAt p2.atName
      let (f2, first) ← holding [ov] (getMethod ov "__init__" (pl L))
      callWith p3 f2 first (backTo p3 (starEach [e] (ksEnv qual scope L f (.ref cda) cc))) []))
    (hsw1 : ∀ L, swapsWith (supC p0 p1 p2 p3 e) none p4.line (ksEnv qual scope L f (.ref cda) cc) = pure false)
    (BO : ∀ v, P v → InitOk prog w K mg base n C f2 [v] (fun mA => mA = fun (y : Str) => if y = "code" then some v else none))
    (hr : ∀ (A : Around) (E : Value → Shared → Prop) (Q : Flow → Shared → Prop) (L x t1 dx : Addr) (v : Value) (hh : Heap) (g : Array GenState) (d : Drawn) (t : Nat) (os : OsState), P v → K.In hh → hh.Ns L (fun y => (bs (.ref x)).reverse.lookup y) → hh.get? x = some (exq C t1 (some dx)) → dx ≠ L → x ≠ L → dx ≠ x → K.lookup dx = none → hh.Ns1 dx (fun y => if y = "code" then some v else none) →
      (∀ h' tk mA, M mA → (∀ b o, b ≠ dx → hh.get? b = some o → h'.get? b = some o) → h'.Ns1 dx mA → Q .next ⟨h', g, d, tk, os⟩) → wpAny (model prog w) A (execs rest (ksEnv qual scope L f (.ref cda) cc)) Q E ⟨hh, g, d, t, os⟩) :
    InitOk prog w K mg base (n + 1) C f us M := by
  intro A R s x t0 bk hlim hroom hx hxb hq
  have X : K.In s.heap := Md.kin.keeps bk
  obtain ⟨cd, hcd, _⟩ := EC.cd
  refine init_frame T X hlim (by omega) (hbind s (.ref x)) (hloc (.ref x)) fun h0 hn k0 => ?_
  obtain ⟨hp, g, d, tk0, os⟩ := s
  have hxL : hp.objs.size ≠ x := Nat.ne_of_gt (Heap.lt_size hx)
  refine ks_wpAt_execs_cons (ks_wpAt_Expr_any ?_ (T.ia _) (hsw1 _))
  refine sup_fn EC.no hm ht hfn T Md (fun b o z => k0 b o (bk b o z)) hms htop hcd hsub hn (hself _) (k0 _ _ hx) (he _ _ _) (hse _) (hev _) fun h1 tk1 v pv k1 => ?_
  refine BO v pv _ _ ⟨h1, g, d, tk1, os⟩ x t0 (fun b o z => k1 _ _ (k0 b o (bk b o z))) ((hlim.keeps k0).keeps k1) (by show A.depth + 1 + n < recursionLimit; omega) (k1 _ _ (k0 _ _ hx)) hxb fun h2 tk2 dx mA hM ⟨k2, ⟨t1, e2⟩, b2, n2, ns2⟩ => ?_
  subst hM
  show _root_.PySem.wpAt _ _ _ (execs _ _) _ _ _
  refine wpAt_of_wpAny ?_
  have hn1 : h1.Ns hp.objs.size (fun y => (bs (.ref x)).reverse.lookup y) := hn.keeps k1
  have hn2 : h2.Ns hp.objs.size (fun y => (bs (.ref x)).reverse.lookup y) := hn1.at fun o z => k2 _ o hxL z
  have bigL : hp.objs.size < h1.objs.size := hn1.lt
  have bigD : hp.objs.size < dx := Nat.lt_of_lt_of_le bigL b2
  have X2 : K.In h2 := fun a o z => k2 a o (fun ea => by
    have := Md.kin _ _ z
    rw [ea, hxb] at this; cases this) (k1 _ _ (k0 _ _ (X _ _ z)))
  have nK : K.lookup dx = none := by
    cases e : K.lookup dx with
    | none => rfl
    | some o => exact absurd (Nat.lt_trans (Heap.lt_size (X _ _ e)) bigD) (Nat.lt_irrefl _)
  refine hr _ _ _ hp.objs.size x t1 dx v h2 g d tk2 os pv X2 hn2 e2 (Nat.ne_of_gt bigD) hxL.symm n2 nK ns2 fun h3 tk3 mA hM k3 ns3 => ?_
  refine hq h3 tk3 dx mA hM ⟨fun b o hb z => k3 b o (fun eb => ?_) (k2 b o hb (k1 b o (k0 b o z))), ⟨t1, k3 _ _ n2.symm e2⟩, Nat.le_of_lt bigD, n2, ns3⟩
  rw [eb] at z
  exact absurd (Nat.lt_trans (Heap.lt_size z) bigD) (Nat.lt_irrefl _)
end
end XO
end PySem
set_option Elab.async false
set_option linter.all false
set_option maxRecDepth 100000
set_option maxHeartbeats 4000000
namespace PySem
namespace XO
open PySem.W PySem.Calls PyProof.Rows PySem.HandSPX L2
section
variable {prog : Program} {w : World} {K : Frag} {mg : Str → Option Value} {base : Heap}
variable {C D f f2 cc cda : Addr} {qual : Str} {ps : Arguments} {scope : Scope} {fd : FuncData} {B newId i : String} {bmB : List Value}
/-- def __init__(self, code): super().__init__(code); self.code = code -/
theorem base_ok (EC : ExC K C B newId i bmB) (na : findIn K (.ref C) "code" = some none) {p0 p1 p2 p3 p4 q0 q1 q2 r0 r1 : Pos} (T : Ini prog K D f qual ps [.Expr (supC p0 p1 p2 p3 (.Name "code" r0)) p4, setS "code" q0 q1 q2 (.Name "code" r1)] scope cc cda fd) (Md : Mod K mg base) (hms : mg "super" = none) (htop : (prog.main.scope.names.lookup ("super" : Str)).isSome = false)
    (hm : ks_superIn K C D "__init__" = some (some (.builtin i))) {cdD : ClassData} (hD : clsIn K D = some cdD) (hsub : mroIn K C (.ref D) = some true) (kcode : scope.names.lookup ("code" : Str) = some .local)
    {pl : Addr → Sem Bool} (hev : ∀ L, eval (supC p0 p1 p2 p3 (.Name "code" r0)) (ksEnv qual scope L f (.ref cda) cc) = (do
      let ov ← attributeBase (.Call (.Name "super" p0) [] [] p1) "__init__" (ksEnv qual scope L f (.ref cda) cc) (eval (.Call (.Name "super" p0) [] [] p1) (ksEnv qual scope L f (.ref cda) cc))
      standAt p2.atName
      let (f2, first) ← holding [ov] (getMethod ov "__init__" (pl L))
      callWith p3 f2 first (backTo p3 (starEach [(.Name "code" r0)] (ksEnv qual scope L f (.ref cda) cc))) []))
    (hbind : ∀ s x v, BindsTo s fd ⟨[x, v], []⟩ [("self", x), ("code", v)]) (v : Value) :
    InitOk prog w K mg base 0 C f [v] (fun mA => mA = fun (y : Str) => if y = "code" then some v else none) := by
  intro A R s x t0 bk hlim hroom hx hxb hq
  refine base_init EC na (P := (· = v)) (P2 := (· = v)) T Md bk hms htop hm hD hsub hlim hroom (hbind s (.ref x) v) (fun y hy => ?_) (by rfl) hx hxb (fun L => sim_name T.kd kcode rfl (by decide)) (fun L => sim_name T.kd kcode rfl (by decide)) (fun L => rfl) hev (fun L => rfl) (fun L => rfl) fun h' tk dx u hu dn => ?_
  · have hy' : y = (("self" : Str), Value.ref x) ∨ y = (("code" : Str), v) := by simpa using hy
    rcases hy' with e | e
    · rw [e]; exact T.ka
    · rw [e]; exact kcode
  · subst hu
    exact hq h' tk dx _ rfl dn
/-- def __init__(self, a): super().__init__("N"); self.a = a -/
theorem sub1_ok (EC : ExC K C B newId i bmB) {a : Str} (na : findIn K (.ref C) a = some none) {p0 p1 p2 p3 p4 r0 q0 q1 q2 r1 : Pos} {N : Str} {j0 n : Nat} (T : Ini prog K C f qual ps [.Expr (supC p0 p1 p2 p3 (.Constant (.str N) j0 r0)) p4, setS a q0 q1 q2 (.Name a r1)] scope cc cda fd) (Md : Mod K mg base) (hms : mg "super" = none) (htop : (prog.main.scope.names.lookup ("super" : Str)).isSome = false)
    (hm : ks_superIn K C C "__init__" = some (some (.ref f2))) (ht : typeIn K (.ref f2) = some (.type "function")) (hfn : fnIn K f2 = true) (hsub : mroIn K C (.ref C) = some true) (kal : scope.names.lookup a = some .local) (had : (a == ("__debug__" : Str)) = false) (has : a ≠ "self")
    {pl : Addr → Sem Bool} (hev : ∀ L, eval (supC p0 p1 p2 p3 (.Constant (.str N) j0 r0)) (ksEnv qual scope L f (.ref cda) cc) = (do
      let ov ← attributeBase (.Call (.Name "super" p0) [] [] p1) "__init__" (ksEnv qual scope L f (.ref cda) cc) (eval (.Call (.Name "super" p0) [] [] p1) (ksEnv qual scope L f (.ref cda) cc))
      standAt p2.atName
      let (f2, first) ← holding [ov] (getMethod ov "__init__" (pl L))
      callWith p3 f2 first (backTo p3 (starEach [(.Constant (.str N) j0 r0)] (ksEnv qual scope L f (.ref cda) cc))) []))
    (hbind : ∀ s x v, BindsTo s fd ⟨[x, v], []⟩ [("self", x), (a, v)]) (BO : ∀ v, InitOk prog w K mg base n C f2 [v] (fun mA => mA = fun (y : Str) => if y = "code" then some v else none)) (u : Value) :
    InitOk prog w K mg base (n + 1) C f [u] (fun mA => ∃ t, mA = fun (y : Str) => if y = a then some u else if y = "code" then some (.str N t) else none) := by
  have la : ∀ x : Value, List.lookup a [(a, u), (("self" : Str), x)] = some u := fun x => by simp [List.lookup]
  have ls : ∀ x : Value, List.lookup ("self" : Str) [(a, u), (("self" : Str), x)] = some x := fun x => by
    have : (("self" : Str) == a) = false := by simpa using fun e => has e.symm
    simp [List.lookup, this]
  refine sub_init EC (P := fun v => ∃ t, v = .str N t) (bs := fun x => [("self", x), (a, u)]) T Md hms htop hm ht hfn hsub (fun s x => hbind s x u) (fun x y hy => ?_) (fun x => ls x) (fun A L x => sim_str) (fun L => rfl) hev (fun L => rfl) (fun v _ => BO v) ?_
  · have hy' : y = (("self" : Str), x) ∨ y = (a, u) := by simpa using hy
    rcases hy' with e | e
    · rw [e]; exact T.ka
    · rw [e]; exact kal
  · intro A E Q L x t1 dx v hh g d t os ⟨tv, ev⟩ X hn hx n1 n2 n3 nK hns hq
    subst ev
    refine set_more EC na (P := (· = u)) X hn hx hns (nl := ["code"]) (Within.cons "code" (.str N tv) Within.nil) (by decide) (sim_name T.kd kal (la (.ref x)) had) (sim_name T.kd T.ka (ls (.ref x)) (by decide)) rfl fun h' tk v hv k ns => ?_
    subst hv
    exact wpAny_execs_nil (hq h' tk _ ⟨tv, rfl⟩ k ns)
end
end XO
end PySem
set_option Elab.async false
set_option linter.all false
set_option maxRecDepth 100000
set_option maxHeartbeats 4000000
/-! By-value layer: data trees D, what represents them (Rp), readings without the heap. -/
namespace EV
open PySem PySem.Spec PyProof.Rows L2
/-- a lambda: its text, the cells that it captured -/
structure LamD where
  qual : Str
  params : Arguments
  body : Expr
  scope : Scope
  cells : List (Str × Addr)
/-- data as a tree -/
inductive D where
  | non | bl (b : Bool) | int (i : Int) | str (x : Str) | opq (v : V)
  | lst (xs : List D) | tup (xs : List D) | dic (kvs : List (Key × D)) | ins (C : Addr) (fs : List (Str × D)) | exc (C : Addr) (fs : List (Str × D)) | lam (l : LamD)
/-- an exception object of the class at C, its dict at dx: the very object -/
def ExO (C dx : Addr) (u : HO) : Prop := ∃ (oe : Obj) (vs : Array Value), u = .frz oe (.own 0) ∧ Zc (.ref C) (some dx) oe ∧ oe.data = .fields vs
/-- the def's data of a lambda, its code at c -/
def LamFd (G : Hp) (l : LamD) (c : Addr) (fd : FuncData) : Prop := ∃ (dV doc pm ctv : Value) (binds : List (Str × Value)), fd = PySem.W.kdv_fn "<lambda>" l.qual l.params (.expr l.body) l.scope l.cells dV doc pm (.ref c) ctv ∧
  (∀ y ∈ binds, l.scope.names.lookup y.1 = some .local) ∧ ((∀ s, BindsTo s fd ⟨[], []⟩ binds) ∨ ∃ t o its n, G t = some (.frz o (.own 0)) ∧ o.data = .seq its n ∧ ∀ s : Shared, s.heap.get? t = some o → BindsTo s fd ⟨[], []⟩ binds)
mutual
/-- the value v stands for the datum d in the visible heap G -/
inductive Rp (K : PySem.W.Frag) (G : Hp) : V → D → Prop
  | non : Rp K G .non .non
  | bl (b : Bool) : Rp K G (.bl b) (.bl b)
  | int (i : Int) : Rp K G (.int i) (.int i)
  | str (x : Str) : Rp K G (.str x) (.str x)
  | opq (v : V) : Rp K G v (.opq v)
  | lst {a : Addr} {vs : List V} {ds : List D} : G a = some (.lst vs) → RpL K G vs ds → Rp K G (.ref a) (.lst ds)
  | tup {a : Addr} {vs : List V} {ds : List D} : SqT K G a vs → RpL K G vs ds → Rp K G (.ref a) (.tup ds)
  | dic {a : Addr} {od : Obj} {kvs : List (Key × V)} {kds : List (Key × D)} : G a = some (.frz od (.dK kvs)) → RpK K G kvs kds → Rp K G (.ref a) (.dic kds)
  | ins {a C dx : Addr} {fs : List (Str × V)} {ds : List (Str × D)} : G a = some (.ins C dx fs) → RpF K G fs ds → Rp K G (.ref a) (.ins C ds)
  | exc {a C dx : Addr} {u : HO} {fs : List (Str × V)} {ds : List (Str × D)} : G a = some u → ExO C dx u → G dx = some (.xd fs) → RpF K G fs ds → Rp K G (.ref a) (.exc C ds)
  | lam {f c : Addr} {l : LamD} {fd : FuncData} : G f = some (.frz { cls := .type "function", data := .func fd } (.own 0)) → G c = some (LamX.CodeO c l.qual) → LamFd G l c fd → Rp K G (.ref f) (.lam l)
inductive RpL (K : PySem.W.Frag) (G : Hp) : List V → List D → Prop
  | nil : RpL K G [] []
  | cons {v : V} {vs : List V} {d : D} {ds : List D} : Rp K G v d → RpL K G vs ds → RpL K G (v :: vs) (d :: ds)
inductive RpK (K : PySem.W.Frag) (G : Hp) : List (Key × V) → List (Key × D) → Prop
  | nil : RpK K G [] []
  | cons {k : Key} {v : V} {vs : List (Key × V)} {d : D} {ds : List (Key × D)} : Rp K G v d → RpK K G vs ds → RpK K G ((k, v) :: vs) ((k, d) :: ds)
inductive RpF (K : PySem.W.Frag) (G : Hp) : List (Str × V) → List (Str × D) → Prop
  | nil : RpF K G [] []
  | cons {k : Str} {v : V} {vs : List (Str × V)} {d : D} {ds : List (Str × D)} : Rp K G v d → RpF K G vs ds → RpF K G ((k, v) :: vs) ((k, d) :: ds)
end
def Sub (G H : Hp) : Prop := ∀ a o, G a = some o → H a = some o
theorem Sub.refl (G : Hp) : Sub G G := fun _ _ h => h
theorem Sub.trans {G H I : Hp} (a : Sub G H) (b : Sub H I) : Sub G I := fun x o h => b x o (a x o h)
theorem Sub.rd {G H : Hp} (e : Sub G H) {a : Addr} {u : HO} (h : Rd G a u) : Rd H a u := by
  rcases h with h | ⟨o, h⟩
  · exact .inl (e _ _ h)
  · exact .inr ⟨o, e _ _ h⟩
theorem Sub.sqL {K : PySem.W.Frag} {G H : Hp} (e : Sub G H) {a : Addr} {xs : List V} (h : SqL K G a xs) : SqL K H a xs := by
  rcases h with h | h
  · exact .inl (e.rd h)
  · exact .inr h
theorem Sub.lstL {K : PySem.W.Frag} {G H : Hp} (e : Sub G H) {a : Addr} {xs : List V} (h : G a = some (.lst xs)) : SqL K H a xs := .inl (.inl (e _ _ h))
theorem Sub.sqT {K : PySem.W.Frag} {G H : Hp} (e : Sub G H) {a : Addr} {xs : List V} (h : SqT K G a xs) : SqT K H a xs := by
  rcases h with h | h
  · exact .inl (e.rd h)
  · exact .inr h
theorem LamFd.mono {G G' : Hp} (e : Sub G G') {l : LamD} {c : Addr} {fd : FuncData} (h : LamFd G l c fd) : LamFd G' l c fd := by
  obtain ⟨dV, doc, pm, ctv, bs, h1, h2, h3⟩ := h
  refine ⟨dV, doc, pm, ctv, bs, h1, h2, ?_⟩
  rcases h3 with h3 | ⟨t, o, its, n, h4, h6, h5⟩
  · exact .inl h3
  · exact .inr ⟨t, o, its, n, e _ _ h4, h6, h5⟩
section
variable {K : PySem.W.Frag} {G G' : Hp}
mutual
theorem Rp.mono (e : Sub G G') : ∀ {d : D} {v : V}, Rp K G v d → Rp K G' v d
  | .non, _, .non => .non
  | .bl _, _, .bl b => .bl b
  | .int _, _, .int i => .int i
  | .str _, _, .str x => .str x
  | .opq _, _, .opq v => .opq v
  | .lst _, _, .lst h r => .lst (e _ _ h) (RpL.mono e r)
  | .tup _, _, .tup h r => .tup (e.sqT h) (RpL.mono e r)
  | .dic _, _, .dic h r => .dic (e _ _ h) (RpK.mono e r)
  | .ins _ _, _, .ins h r => .ins (e _ _ h) (RpF.mono e r)
  | .exc _ _, _, .exc h x q r => .exc (e _ _ h) x (e _ _ q) (RpF.mono e r)
  | .lam _, _, .lam h q r => .lam (e _ _ h) (e _ _ q) (r.mono e)
theorem RpL.mono (e : Sub G G') : ∀ {ds : List D} {vs : List V}, RpL K G vs ds → RpL K G' vs ds
  | [], _, .nil => .nil
  | _ :: _, _, .cons h r => .cons (Rp.mono e h) (RpL.mono e r)
theorem RpK.mono (e : Sub G G') : ∀ {ds : List (Key × D)} {vs : List (Key × V)}, RpK K G vs ds → RpK K G' vs ds
  | [], _, .nil => .nil
  | _ :: _, _, .cons h r => .cons (Rp.mono e h) (RpK.mono e r)
theorem RpF.mono (e : Sub G G') : ∀ {ds : List (Str × D)} {vs : List (Str × V)}, RpF K G vs ds → RpF K G' vs ds
  | [], _, .nil => .nil
  | _ :: _, _, .cons h r => .cons (Rp.mono e h) (RpF.mono e r)
end
theorem RpL.length : ∀ {vs : List V} {ds : List D}, RpL K G vs ds → vs.length = ds.length
  | _, _, .nil => rfl
  | _, _, .cons _ r => congrArg (· + 1) (RpL.length r)
theorem RpL.get : ∀ {vs : List V} {ds : List D} {i : Nat} {d : D}, RpL K G vs ds → ds[i]? = some d → ∃ v, vs[i]? = some v ∧ Rp K G v d
  | _, _, _, _, .nil, e => by simp at e
  | _, _, 0, _, .cons r _, e => by simp at e; subst e; exact ⟨_, rfl, r⟩
  | _, _, i + 1, d, .cons _ t, e => by
    obtain ⟨u, h1, h2⟩ := RpL.get (i := i) (d := d) t (by simpa using e)
    exact ⟨u, by simpa using h1, h2⟩
theorem RpL.append : ∀ {xs ys : List V} {us ws : List D}, RpL K G xs us → RpL K G ys ws → RpL K G (xs ++ ys) (us ++ ws)
  | _, _, _, _, .nil, s => s
  | _, _, _, _, .cons r t, s => .cons r (RpL.append t s)
theorem RpL.take : ∀ {xs : List V} {us : List D} (n : Nat), RpL K G xs us → RpL K G (xs.take n) (us.take n)
  | _, _, 0, _ => .nil
  | _, _, _ + 1, .nil => .nil
  | _, _, n + 1, .cons r t => .cons r (RpL.take n t)
theorem RpL.drop : ∀ {xs : List V} {us : List D} (n : Nat), RpL K G xs us → RpL K G (xs.drop n) (us.drop n)
  | _, _, 0, r => r
  | _, _, _ + 1, .nil => .nil
  | _, _, n + 1, .cons _ t => RpL.drop n t
theorem RpL.set {x : V} {u : D} (r : Rp K G x u) : ∀ {xs : List V} {us : List D} (i : Nat), RpL K G xs us → RpL K G (xs.set i x) (us.set i u)
  | _, _, _, .nil => .nil
  | _, _, 0, .cons _ t => .cons r t
  | _, _, i + 1, .cons q t => .cons q (RpL.set r i t)
theorem RpL.ints : ∀ {vs : List V} {ns : List Int}, RpL K G vs (ns.map D.int) → vs = ns.map V.int
  | _, [], h => by cases h; rfl
  | _, n :: ns, h => by cases h with | cons a b => cases a; rw [RpL.ints b]; rfl
theorem RpL.of_ints : ∀ {ns : List Int}, RpL K G (ns.map V.int) (ns.map D.int)
  | [] => .nil
  | n :: ns => .cons (.int n) RpL.of_ints
end
/-! ### the state: G visible, H whole; B: the box and its list, the tables of code objects -/
/-- bx: the box, its list, the tables; amb: what is visible all along -/
structure Bo where
  bx : Option (Addr × Addr × List (Addr × Str))
  amb : Hp
def bo0 : Bo := ⟨none, fun _ => none⟩
def boB (b l : Addr) (T : List (Addr × Str)) : Bo := ⟨some (b, l, T), fun _ => none⟩
/-- what is hidden and changes on its own -/
def Hid (B : Bo) (a : Addr) : Prop := ∃ b l T, B.bx = some (b, l, T) ∧ (a = b ∨ ∃ p ∈ T, a = p.1)
/-- the tables: their code objects are visible -/
def TabG (T : List (Addr × Str)) (G H : Hp) : Prop := ∀ p ∈ T, ∃ ps : Array Value, H p.1 = some (.tbl ps) ∧ TriplesOk ps.toList ∧ ∀ (pos : Pos) (cv : Value), codeAmong pos ps.toList = some cv → ∃ c, cv = .ref c ∧ G c = some (LamX.CodeO c p.2)
theorem TabG.tabs {T : List (Addr × Str)} {G H : Hp} (s : Sub G H) (h : TabG T G H) : LamX.Tabs T H := fun p hp => by
  obtain ⟨ps, a, b, c⟩ := h p hp
  exact ⟨ps, a, b, fun pos cv e => by obtain ⟨x, e1, e2⟩ := c pos cv e; exact ⟨x, e1, s _ _ e2⟩⟩
structure Bx (K : PySem.W.Frag) (G H : Hp) (b l : Addr) (T : List (Addr × Str)) : Prop where
  hid : G b = none
  has : ∃ (ns : List Int) (i r m c : Int), H b = some (.lst [.ref l, .int i, .int r, .int m, .int c]) ∧ SqL K G l (ns.map V.int) ∧ 0 ≤ i ∧ 0 ≤ r ∧ 0 ≤ m ∧ m < 2147483587 ∧ 0 ≤ c
  tab : TabG T G H
  tv : ∀ p ∈ T, G p.1 = none
/-- objects that may change: their contents, by address -/
abbrev Ow := Addr → Option D
def oset (O : Ow) (p : Addr) (d : D) : Ow := fun q => if q = p then some d else O q
def odel (O : Ow) (p : Addr) : Ow := fun q => if q = p then none else O q
theorem oset_same {O : Ow} {p : Addr} {d : D} : oset O p d p = some d := by unfold oset; rw [if_pos rfl]
theorem oset_ne {O : Ow} {p q : Addr} {d : D} (h : q ≠ p) : oset O p d q = O q := by unfold oset; rw [if_neg h]
theorem odel_same {O : Ow} {p : Addr} : odel O p p = none := by unfold odel; rw [if_pos rfl]
theorem odel_ne {O : Ow} {p q : Addr} (h : q ≠ p) : odel O p q = O q := by unfold odel; rw [if_neg h]
theorem oset_oset {O : Ow} {p : Addr} {d e : D} : oset (oset O p d) p e = oset O p e := by funext q; unfold oset; split <;> rfl
theorem odel_oset {O : Ow} {p : Addr} {d : D} (h : O p = none) : odel (oset O p d) p = O := by
  funext q; unfold oset odel
  by_cases e : q = p
  · rw [if_pos e, e, h]
  · rw [if_neg e]; exact if_neg e
/-- an object that may change: its items are visible, itself is not -/
def RpO (K : PySem.W.Frag) (G H : Hp) (p : Addr) : D → Prop
  | .lst ds => ∃ vs, H p = some (.lst vs) ∧ RpL K G vs ds
  | .dic ds => ∃ vs, H p = some (.dK vs) ∧ RpK K G vs ds
  | .ins C ds => ∃ dx fs, H p = some (.ins C dx fs) ∧ RpF K G fs ds
  | _ => False
theorem RpO.some_of {K : PySem.W.Frag} {G H : Hp} {p : Addr} : ∀ {d : D}, RpO K G H p d → ∃ o, H p = some o
  | .lst _, ⟨_, h, _⟩ => ⟨_, h⟩
  | .dic _, ⟨_, h, _⟩ => ⟨_, h⟩
  | .ins _ _, ⟨_, _, h, _⟩ => ⟨_, h⟩
theorem RpO.mono {K : PySem.W.Frag} {G H G' H' : Hp} {p : Addr} (s : Sub G G') (k : ∀ o, H p = some o → H' p = some o) : ∀ {d : D}, RpO K G H p d → RpO K G' H' p d
  | .lst _, ⟨vs, h, r⟩ => ⟨vs, k _ h, r.mono s⟩
  | .dic _, ⟨vs, h, r⟩ => ⟨vs, k _ h, r.mono s⟩
  | .ins _ _, ⟨dx, fs, h, r⟩ => ⟨dx, fs, k _ h, r.mono s⟩
/-- what p holds, as a visible thing -/
theorem RpO.rp {K : PySem.W.Frag} {G H : Hp} {p : Addr} {o : HO} (e : H p = some o) (n : G p = none) : ∀ {d : D}, (∀ ks, d ≠ .dic ks) → RpO K G H p d → Rp K (upd G p o) (.ref p) d := fun {d} nd r => by
  have s : Sub G (upd G p o) := fun a u h => by rw [upd_ne (fun z => by rw [z, n] at h; cases h)]; exact h
  cases d <;> first
    | exact r.elim
    | exact absurd rfl (nd _)
    | (obtain ⟨vs, h, r⟩ := r; rw [e] at h; cases h; exact .lst upd_same (r.mono s))
    | (obtain ⟨dx, fs, h, r⟩ := r; rw [e] at h; cases h; exact .ins upd_same (r.mono s))
structure Good (K : PySem.W.Frag) (B : Bo) (O : Ow) (G H : Hp) : Prop where
  sub : Sub G H
  box : ∀ b l T, B.bx = some (b, l, T) → Bx K G H b l T
  amb : Sub B.amb G
  own : ∀ p d, O p = some d → G p = none ∧ ¬ Hid B p ∧ RpO K G H p d
structure Step (K : PySem.W.Frag) (B : Bo) (O : Ow) (G H : Hp) (O' : Ow) (G' H' : Hp) : Prop where
  grow : Sub G G'
  good : Good K B O' G' H'
  keep : ∀ a o, H a = some o → ¬ Hid B a → O a = none → H' a = some o
  hid : ∀ a o, H a = some o → G a = none → O a = none → G' a = none ∧ O' a = none
  still : ∀ a, H a ≠ none → H' a ≠ none
theorem upd_still {H : Hp} {p : Addr} {o : HO} (a : Addr) (h : H a ≠ none) : upd H p o a ≠ none := by
  unfold upd
  split
  · exact Option.some_ne_none _
  · exact h
section
variable {K : PySem.W.Frag} {B : Bo} {O O' O'' : Ow} {G H G' H' G'' H'' : Hp}
theorem Good.vis {a : Addr} {o : HO} (g : Good K B O G H) (h : G a = some o) : O a = none := by
  cases e : O a with
  | none => rfl
  | some d => have := (g.own a d e).1; rw [h] at this; cases this
theorem Good.fresh {a : Addr} (g : Good K B O G H) (h : H a = none) : O a = none := by
  cases e : O a with
  | none => rfl
  | some d => obtain ⟨o, z⟩ := (g.own a d e).2.2.some_of; rw [h] at z; cases z
theorem Good.freshG {a : Addr} (g : Good K B O G H) (h : H a = none) : G a = none := by
  cases e : G a with
  | none => rfl
  | some d => rw [g.sub _ _ e] at h; cases h
theorem Good.hidH {a : Addr} (g : Good K B O G H) (h : Hid B a) : ∃ o, H a = some o ∧ (∀ φ, o ≠ .ext φ) := by
  obtain ⟨b, l, T, e, h⟩ := h
  have bx := g.box b l T e
  rcases h with rfl | ⟨p, hp, rfl⟩
  · obtain ⟨ns, i, r, m, c, h2, _⟩ := bx.has
    exact ⟨_, h2, fun φ z => by cases z⟩
  · obtain ⟨ps, h2, _⟩ := bx.tab p hp
    exact ⟨_, h2, fun φ z => by cases z⟩
theorem Good.hidG {a : Addr} (g : Good K B O G H) (h : Hid B a) : G a = none := by
  obtain ⟨b, l, T, e, h⟩ := h
  have bx := g.box b l T e
  rcases h with rfl | ⟨p, hp, rfl⟩
  · exact bx.hid
  · exact bx.tv p hp
theorem Good.hidO {a : Addr} (g : Good K B O G H) (h : Hid B a) : O a = none := by
  cases q : O a with
  | none => rfl
  | some d => exact absurd h (g.own a d q).2.1
theorem Good.nhid {a : Addr} (g : Good K B O G H) (h : H a = none) : ¬ Hid B a := fun z => by
  obtain ⟨o, e, _⟩ := g.hidH z
  rw [h] at e; cases e
theorem Step.refl (g : Good K B O G H) : Step K B O G H O G H := ⟨Sub.refl G, g, fun _ _ h _ _ => h, fun _ _ _ h n => ⟨h, n⟩, fun _ h => h⟩
theorem Step.visO {a : Addr} {o : HO} (s : Step K B O G H O' G' H') (h : H a = some o) (n : O a = none) : O' a = none := by
  cases e : G a with
  | none => exact (s.hid a o h e n).2
  | some u => exact s.good.vis (s.grow _ _ e)
theorem Step.trans (s : Step K B O G H O' G' H') (t : Step K B O' G' H' O'' G'' H'') : Step K B O G H O'' G'' H'' := by
  refine ⟨s.grow.trans t.grow, t.good, fun a o h n z => t.keep a o (s.keep a o h n z) n (s.visO h z), fun a o h g z => ?_, fun a h => t.still a (s.still a h)⟩
  by_cases hb : Hid B a
  · exact ⟨t.good.hidG hb, t.good.hidO hb⟩
  · have q := s.hid a o h g z
    exact t.hid a o (s.keep a o h hb z) q.1 q.2
/-- the box stays: what is hidden is as it was, and so is every code object -/
theorem Bx.step {b l : Addr} {T : List (Addr × Str)} (h : Bx K G H b l T) (s : Sub G G') (n : ∀ a, (a = b ∨ ∃ p ∈ T, a = p.1) → G' a = none) (k : ∀ a o, (a = b ∨ ∃ p ∈ T, a = p.1) ∨ (∃ φ, o = .ext φ) → H a = some o → H' a = some o) : Bx K G' H' b l T := by
  obtain ⟨h1, ⟨ns, i, r, m, c, h2, h3, h4⟩, h5, h6⟩ := h
  refine ⟨n b (.inl rfl), ⟨ns, i, r, m, c, k _ _ (.inl (.inl rfl)) h2, s.sqL h3, h4⟩, fun p hp => ?_, fun p hp => n p.1 (.inr ⟨p, hp, rfl⟩)⟩
  obtain ⟨ps, a1, a2, a3⟩ := h5 p hp
  refine ⟨ps, k _ _ (.inl (.inr ⟨p, hp, rfl⟩)) a1, a2, fun pos cv hc => ?_⟩
  obtain ⟨c, e1, e2⟩ := a3 pos cv hc
  exact ⟨c, e1, s _ _ e2⟩
/-- a new visible object -/
theorem Step.new (g : Good K B O G H) {p : Addr} {o : HO} (n : H p = none) : Step K B O G H O (upd G p o) (upd H p o) := by
  have n0 : ∀ q u, H q = some u → q ≠ p := fun q u h e => by rw [e, n] at h; cases h
  have n1 : ∀ q u, G q = some u → q ≠ p := fun q u h => n0 q u (g.sub q u h)
  have sG : Sub G (upd G p o) := fun a u h => by rw [upd_ne (n1 a u h)]; exact h
  have sH : Sub H (upd H p o) := fun a u h => by rw [upd_ne (n0 a u h)]; exact h
  refine ⟨sG, ⟨fun a u h => ?_, fun b l T e => ?_, g.amb.trans sG, fun q d e => ?_⟩, fun a u h _ _ => sH _ _ h, fun a u h z nO => ⟨?_, nO⟩, upd_still⟩
  · by_cases e : a = p
    · subst e; rw [upd_same] at h ⊢; exact h
    · rw [upd_ne e] at h ⊢; exact g.sub a u h
  · refine (g.box b l T e).step sG (fun a ha => ?_) fun a o _ h => sH _ _ h
    have ha : Hid B a := ⟨b, l, T, e, ha⟩
    obtain ⟨u, hu, _⟩ := g.hidH ha
    rw [upd_ne (n0 _ _ hu)]; exact g.hidG ha
  · obtain ⟨a, b, c⟩ := g.own q d e
    obtain ⟨u, hu⟩ := c.some_of
    exact ⟨by rw [upd_ne (n0 _ _ hu)]; exact a, b, c.mono sG fun u h => sH _ _ h⟩
  · rw [upd_ne (n0 a u h)]; exact z
/-- a new hidden object -/
theorem Step.newH (g : Good K B O G H) {p : Addr} {o : HO} (n : H p = none) : Step K B O G H O G (upd H p o) := by
  have n0 : ∀ q u, H q = some u → q ≠ p := fun q u h e => by rw [e, n] at h; cases h
  have sH : Sub H (upd H p o) := fun a u h => by rw [upd_ne (n0 a u h)]; exact h
  refine ⟨Sub.refl _, ⟨g.sub.trans sH, fun b l T e => ?_, g.amb, fun q d e => ?_⟩, fun a u h _ _ => sH _ _ h, fun a u h z nO => ⟨z, nO⟩, upd_still⟩
  · exact (g.box b l T e).step (Sub.refl _) (fun a ha => g.hidG ⟨b, l, T, e, ha⟩) fun a o _ h => sH _ _ h
  · obtain ⟨a, b, c⟩ := g.own q d e
    exact ⟨a, b, c.mono (Sub.refl _) fun u h => sH _ _ h⟩
/-- what p holds changes, p being one's own or hidden and new -/
theorem Step.put (g : Good K B O G H) {p : Addr} {o : HO} {d : D} (nG : G p = none) (nb : ¬ Hid B p) (r : RpO K G (upd H p o) p d) (z : O p ≠ none ∨ H p = none) : Step K B O G H (oset O p d) G (upd H p o) := by
  have k : ∀ q, q ≠ p → ∀ u, H q = some u → upd H p o q = some u := fun q n u h => by rw [upd_ne n]; exact h
  have np : ∀ a u, H a = some u → O a = none → a ≠ p := fun a u h n e => by
    subst e
    rcases z with z | z
    · exact z n
    · rw [z] at h; cases h
  have nx : ∀ a φ, H a = some (.ext φ) → a ≠ p := fun a φ h e => by
    subst e
    rcases z with z | z
    · cases q : O a with
      | none => exact z q
      | some d' =>
        have := (g.own a d' q).2.2
        cases d' <;> first
          | exact this.elim
          | (obtain ⟨vs, h', _⟩ := this; rw [h] at h'; cases h')
          | (obtain ⟨dx, fs, h', _⟩ := this; rw [h] at h'; cases h')
    · rw [z] at h; cases h
  refine ⟨Sub.refl _, ⟨fun a u h => k a (fun e => by rw [e, nG] at h; cases h) u (g.sub _ _ h), fun b l T e => ?_, g.amb, fun q d' e => ?_⟩, fun a u h _ n => k a (np a u h n) u h, fun a u h zz n => ⟨zz, by rw [oset_ne (np a u h n)]; exact n⟩, upd_still⟩
  · refine (g.box b l T e).step (Sub.refl _) (fun a ha => g.hidG ⟨b, l, T, e, ha⟩) fun a o ha h => k a (fun z => ?_) o h
    rcases ha with ha | ⟨φ, rfl⟩
    · subst z; exact nb ⟨b, l, T, e, ha⟩
    · exact nx a φ h z
  · by_cases hq : q = p
    · subst hq; rw [oset_same] at e; cases e; exact ⟨nG, nb, r⟩
    · rw [oset_ne hq] at e
      obtain ⟨a, b, c⟩ := g.own q d' e
      exact ⟨a, b, c.mono (Sub.refl _) (k q hq)⟩
/-- what is one's own is shown, and changes no more -/
theorem Step.freeze (g : Good K B O G H) {p : Addr} {d : D} (nd : ∀ ks, d ≠ .dic ks) (e : O p = some d) : ∃ G', Step K B O G H (odel O p) G' H ∧ Rp K G' (.ref p) d := by
  obtain ⟨nG, nb, r⟩ := g.own p d e
  obtain ⟨o, ho⟩ := r.some_of
  have sG : Sub G (upd G p o) := fun a u h => by rw [upd_ne (fun z => by rw [z, nG] at h; cases h)]; exact h
  refine ⟨upd G p o, ⟨sG, ⟨fun a u h => ?_, fun b l T eb => ?_, g.amb.trans sG, fun q d' eq => ?_⟩, fun a u h _ _ => h, fun a u h z n => ?_, fun _ h => h⟩, r.rp ho nG nd⟩
  · by_cases z : a = p
    · subst z; rw [upd_same] at h; cases h; exact ho
    · rw [upd_ne z] at h; exact g.sub _ _ h
  · refine (g.box b l T eb).step sG (fun a ha => ?_) fun a o _ h => h
    have ha : Hid B a := ⟨b, l, T, eb, ha⟩
    rw [upd_ne (fun z => nb (by rw [← z]; exact ha))]; exact g.hidG ha
  · by_cases z : q = p
    · subst z; rw [odel_same] at eq; cases eq
    · rw [odel_ne z] at eq
      obtain ⟨a, b, c⟩ := g.own q d' eq
      exact ⟨by rw [upd_ne z]; exact a, b, c.mono sG fun _ h => h⟩
  · have np : a ≠ p := fun q => by subst q; rw [e] at n; cases n
    exact ⟨by rw [upd_ne np]; exact z, by rw [odel_ne np]; exact n⟩
/-- a dict is shown: from then on its object stays -/
theorem Step.freezeD (g : Good K B O G H) {p : Addr} {kds : List (Key × D)} (e : O p = some (.dic kds)) : ∃ kvs, H p = some (.dK kvs) ∧ ∀ od, ∃ G', Step K B O G H (odel O p) G' (upd H p (.frz od (.dK kvs))) ∧ Rp K G' (.ref p) (.dic kds) := by
  obtain ⟨nG, nb, kvs, ho, r⟩ := g.own p _ e
  refine ⟨kvs, ho, fun od => ?_⟩
  have neG : ∀ a u, G a = some u → a ≠ p := fun a u h z => by rw [z, nG] at h; cases h
  have sG : Sub G (upd G p (.frz od (.dK kvs))) := fun a u h => by rw [upd_ne (neG a u h)]; exact h
  refine ⟨upd G p (.frz od (.dK kvs)), ⟨sG, ⟨fun a u h => ?_, fun b l T eb => ?_, g.amb.trans sG, fun q d' eq => ?_⟩, fun a u h _ n => ?_, fun a u h z n => ?_, upd_still⟩, .dic upd_same (r.mono sG)⟩
  · by_cases z : a = p
    · subst z; rw [upd_same] at h ⊢; exact h
    · rw [upd_ne z] at h ⊢; exact g.sub _ _ h
  · refine (g.box b l T eb).step sG (fun a ha => ?_) fun a o ha h => ?_
    · have ha : Hid B a := ⟨b, l, T, eb, ha⟩
      rw [upd_ne (fun z => nb (by rw [← z]; exact ha))]; exact g.hidG ha
    · have z : a ≠ p := fun z => by
        subst z
        rcases ha with ha | ⟨φ, rfl⟩
        · exact nb ⟨b, l, T, eb, ha⟩
        · rw [ho] at h; cases h
      rw [upd_ne z]; exact h
  · have z : q ≠ p := fun z => by subst z; rw [odel_same] at eq; cases eq
    rw [odel_ne z] at eq
    obtain ⟨a, b, c⟩ := g.own q d' eq
    exact ⟨by rw [upd_ne z]; exact a, b, c.mono sG fun u h => by rw [upd_ne z]; exact h⟩
  · have np : a ≠ p := fun q => by subst q; rw [e] at n; cases n
    rw [upd_ne np]; exact h
  · have np : a ≠ p := fun q => by subst q; rw [e] at n; cases n
    exact ⟨by rw [upd_ne np]; exact z, by rw [odel_ne np]; exact n⟩
end
end EV
set_option Elab.async false
set_option linter.all false
set_option maxRecDepth 100000
set_option maxHeartbeats 4000000
namespace EV
open PySem PySem.Spec PyProof.Rows L2
/-! ### slots -/
inductive Sl where
  | un | sh (d : D)
abbrev Slots := List Sl
structure RpS (K : PySem.W.Frag) (G : Hp) (σ : L2.St) (ρ : Slots) : Prop where
  len : σ.length = ρ.length
  sh : ∀ (i : Nat) (d : D), ρ[i]? = some (.sh d) → ∃ v, σ[i]? = some (some v) ∧ Rp K G v d
/-- an exception: its class, its attributes -/
abbrev Xc := Addr × List (Str × D)
abbrev QD := D → Ow → Prop
abbrev QX := Xc → Ow → Prop
abbrev DE := Slots → Ow → QD → QX → Prop
abbrev DT := Slots → Ow → (Bool → Ow → Prop) → QX → Prop
abbrev DA := Slots → Ow → (List D → Ow → Prop) → QX → Prop
def kv (K : PySem.W.Frag) (B : Bo) (O : Ow) (G H : Hp) (Q : VK) : QD := fun d O' => ∀ v G' H', Step K B O G H O' G' H' → Rp K G' v d → Q v H'
def kb (K : PySem.W.Frag) (B : Bo) (O : Ow) (G H : Hp) (Q : Bool → Hp → Prop) : Bool → Ow → Prop := fun b O' => ∀ G' H', Step K B O G H O' G' H' → Q b H'
def ka (K : PySem.W.Frag) (B : Bo) (O : Ow) (G H : Hp) (Q : List V → Hp → Prop) : List D → Ow → Prop := fun ds O' => ∀ vs G' H', Step K B O G H O' G' H' → RpL K G' vs ds → Q vs H'
def kx (K : PySem.W.Frag) (B : Bo) (O : Ow) (G H : Hp) (E : XK) : QX := fun x O' => ∀ d fs G' H', Step K B O G H O' G' H' → G' d = some (.xd fs) → RpF K G' fs x.2 → E (.ref x.1) (some d) H'
section
variable {K : PySem.W.Frag} {B : Bo} {O O' O'' : Ow} {G H G' H' : Hp}
theorem kv.step {Q : VK} {d : D} (s : Step K B O G H O' G' H') (h : kv K B O G H Q d O'') : kv K B O' G' H' Q d O'' := fun v G2 H2 t r => h v G2 H2 (s.trans t) r
theorem kb.step {Q : Bool → Hp → Prop} {d : Bool} (s : Step K B O G H O' G' H') (h : kb K B O G H Q d O'') : kb K B O' G' H' Q d O'' := fun G2 H2 t => h G2 H2 (s.trans t)
theorem ka.step {Q : List V → Hp → Prop} {d : List D} (s : Step K B O G H O' G' H') (h : ka K B O G H Q d O'') : ka K B O' G' H' Q d O'' := fun v G2 H2 t r => h v G2 H2 (s.trans t) r
theorem kx.step {E : XK} {x : Xc} (s : Step K B O G H O' G' H') (h : kx K B O G H E x O'') : kx K B O' G' H' E x O'' := fun d fs G2 H2 t a r => h d fs G2 H2 (s.trans t) a r
theorem RpS.mono {σ : L2.St} {ρ : Slots} (s : Sub G G') (r : RpS K G σ ρ) : RpS K G' σ ρ :=
  ⟨r.len, fun i d h => by obtain ⟨v, e, q⟩ := r.sh i d h; exact ⟨v, e, q.mono s⟩⟩
theorem RpS.step {σ : L2.St} {ρ : Slots} (s : Step K B O G H O' G' H') (r : RpS K G σ ρ) : RpS K G' σ ρ := r.mono s.grow
end
def up (K : PySem.W.Frag) (B : Bo) (W : L2.St → XK) (m : DE) : TE := fun σ H Q => ∃ G O ρ, Good K B O G H ∧ RpS K G σ ρ ∧ m ρ O (kv K B O G H Q) (kx K B O G H (W σ))
def upT (K : PySem.W.Frag) (B : Bo) (W : L2.St → XK) (m : DT) : TT := fun σ H Q => ∃ G O ρ, Good K B O G H ∧ RpS K G σ ρ ∧ m ρ O (kb K B O G H Q) (kx K B O G H (W σ))
def upA (K : PySem.W.Frag) (B : Bo) (W : L2.St → XK) (m : DA) : TA := fun σ H Q => ∃ G O ρ, Good K B O G H ∧ RpS K G σ ρ ∧ m ρ O (ka K B O G H Q) (kx K B O G H (W σ))
def Mo {α : Type} (m : Slots → Ow → (α → Ow → Prop) → QX → Prop) : Prop := ∀ ρ O Q Q' E E', (∀ d O, Q d O → Q' d O) → (∀ x O, E x O → E' x O) → m ρ O Q E → m ρ O Q' E'
/-- where one stands: the box, the wish of exceptions -/
structure Pl where
  B : Bo
  W : L2.St → XK
structure DPE (X : Cx) (L : Pl) (e : Expr) (m : DE) : Prop where
  mo : Mo m
  run : PE X e (up X.K L.B L.W m)
structure DPT (X : Cx) (L : Pl) (e : Expr) (m : DT) : Prop where
  mo : Mo m
  run : PT X e (upT X.K L.B L.W m)
structure DPW (X : Cx) (L : Pl) (e : Expr) (m : DT) : Prop where
  mo : Mo m
  run : PW X e (upT X.K L.B L.W m)
structure DPA (X : Cx) (L : Pl) (es : List Expr) (m : DA) : Prop where
  mo : Mo m
  run : PA X es (upA X.K L.B L.W m)
section
variable {X : Cx} {L : Pl} {e a b c : Expr} {es : List Expr} {m ma mb mc : DE} {mt mu : DT} {mA : DA} {pos p : Pos}
theorem pe_imp {t t' : TE} (h : PE X e t) (i : ∀ σ H Q, t' σ H Q → t σ H Q) : PE X e t' := ⟨fun pins s σ H Q I q => h.run pins s σ H Q I (i _ _ _ q)⟩
theorem pt_imp {t t' : TT} (h : PT X e t) (i : ∀ σ H Q, t' σ H Q → t σ H Q) : PT X e t' := ⟨fun pins s σ H Q I q => h.run pins s σ H Q I (i _ _ _ q)⟩
theorem pw_imp {t t' : TT} (h : PW X e t) (i : ∀ σ H Q, t' σ H Q → t σ H Q) : PW X e t' := ⟨fun wh pins s σ H Q I q => h.run wh pins s σ H Q I (i _ _ _ q)⟩
theorem pa_imp {t t' : TA} (h : PA X es t) (i : ∀ σ H Q, t' σ H Q → t σ H Q) : PA X es t' := ⟨fun pos pins s σ H Q I q => h.run pos pins s σ H Q I (i _ _ _ q)⟩
variable {K : PySem.W.Frag} {B : Bo} {O O1 O2 O3 : Ow} {W : L2.St → XK} {G H : Hp} {σ : L2.St} {ρ : Slots}
theorem up_of {R : VK} {P : QD} (mo : Mo m) (g : Good K B O G H) (r : RpS K G σ ρ) (h : m ρ O P (kx K B O G H (W σ)))
    (k : ∀ d v O' G' H', P d O' → Step K B O G H O' G' H' → Rp K G' v d → R v H') : up K B W m σ H R :=
  ⟨G, O, ρ, g, r, mo ρ _ _ _ _ _ (fun d O' p v G' H' s q => k d v O' G' H' p s q) (fun _ _ x => x) h⟩
theorem upT_of {R : Bool → Hp → Prop} {P : Bool → Ow → Prop} (mo : Mo mt) (g : Good K B O G H) (r : RpS K G σ ρ) (h : mt ρ O P (kx K B O G H (W σ)))
    (k : ∀ b O' G' H', P b O' → Step K B O G H O' G' H' → R b H') : upT K B W mt σ H R :=
  ⟨G, O, ρ, g, r, mo ρ _ _ _ _ _ (fun d O' p G' H' s => k d O' G' H' p s) (fun _ _ x => x) h⟩
theorem upA_of {R : List V → Hp → Prop} {P : List D → Ow → Prop} (mo : Mo mA) (g : Good K B O G H) (r : RpS K G σ ρ) (h : mA ρ O P (kx K B O G H (W σ)))
    (k : ∀ d v O' G' H', P d O' → Step K B O G H O' G' H' → RpL K G' v d → R v H') : upA K B W mA σ H R :=
  ⟨G, O, ρ, g, r, mo ρ _ _ _ _ _ (fun d O' p v G' H' s q => k d v O' G' H' p s q) (fun _ _ x => x) h⟩
/-- the wish of exceptions carried on -/
theorem mo_step {α : Type} {n : Slots → Ow → (α → Ow → Prop) → QX → Prop} {P : α → Ow → Prop} {O' O'' : Ow} {G' H' : Hp} {E : XK} (mo : Mo n) (s : Step K B O G H O' G' H') (h : n ρ O'' P (kx K B O G H E)) : n ρ O'' P (kx K B O' G' H' E) :=
  mo ρ _ _ _ _ _ (fun _ _ x => x) (fun _ _ x => x.step s) h
/-! ### names, constants -/
def dVar (i : Nat) : DE := fun ρ O Q _ => match ρ[i]? with
  | some (.sh d) => Q d O
  | _ => False
theorem mo_var (i : Nat) : Mo (dVar i) := fun ρ O Q Q' E E' h _ x => by
  unfold dVar at x ⊢
  split <;> simp_all
theorem d_var {i : Nat} {x : Str} (hN : X.N[i]? = some x) (hv : Vis X.env.scope x) (hd : (x == ("__debug__" : Str)) = false) (hcd : (x == ("__classdict__" : Str)) = false) : DPE X L (.Name x pos) (dVar i) := by
  refine ⟨mo_var i, pe_imp (pe_var hN hv hd hcd) fun σ H Q ⟨G, O, ρ, g, r, h⟩ => ?_⟩
  unfold dVar at h
  split at h
  · rename_i d e
    obtain ⟨v, ev, q⟩ := r.sh i d e
    exact ⟨v, ev, h v G H (Step.refl g) q⟩
  · exact h.elim
/-- the handle in a slot, from now on shown -/
def dVarF (i : Nat) : DE := fun ρ O Q _ => match ρ[i]? with
  | some (.sh (.opq (.ref p))) => ∃ d, O p = some d ∧ Q d (odel O p)
  | _ => False
theorem mo_varF (i : Nat) : Mo (dVarF i) := fun ρ O Q Q' E E' h _ x => by
  unfold dVarF at x ⊢
  split at x
  · obtain ⟨d, e, q⟩ := x
    exact ⟨d, e, h _ _ q⟩
  · exact x
/-- a dict may be locked where one stands -/
theorem pe_lk {t : TE} (h : PE X e t) : PE X e (fun σ H Q => t σ H fun v H1 => Q v H1 ∨ ∃ p u, v = .ref p ∧ H1 p = some u ∧ Mut (some u) ∧ ∀ od, Q v (upd H1 p (.frz od u))) := by
  refine ⟨fun pins s σ H Q I hw => wpAny_mono (h.run pins s σ H _ I hw) (fun v s1 ⟨x, H1, I1, r, q⟩ => ?_) fun _ _ z => z⟩
  rcases q with q | ⟨p, u, rfl, hp, mu, q⟩
  · exact ⟨x, H1, I1, r, q⟩
  · obtain ⟨od, I2⟩ := I1.lock hp mu
    exact ⟨.ref p, _, I2, r, q od⟩
theorem d_varF {i : Nat} {x : Str} (hN : X.N[i]? = some x) (hv : Vis X.env.scope x) (hd : (x == ("__debug__" : Str)) = false) (hcd : (x == ("__classdict__" : Str)) = false) : DPE X L (.Name x pos) (dVarF i) := by
  refine ⟨mo_varF i, pe_imp (pe_lk (pe_var hN hv hd hcd)) fun σ H Q ⟨G, O, ρ, g, r, h⟩ => ?_⟩
  unfold dVarF at h
  split at h
  · rename_i p e
    obtain ⟨d, ed, h⟩ := h
    obtain ⟨v, ev, q⟩ := r.sh i _ e
    cases q
    by_cases nd : ∀ ks, d ≠ .dic ks
    · obtain ⟨G', s, rp⟩ := Step.freeze g nd ed
      exact ⟨_, ev, .inl (h _ G' H s rp)⟩
    · have : ∃ ks, d = .dic ks := Classical.byContradiction fun z => nd fun ks e => z ⟨ks, e⟩
      obtain ⟨ks, rfl⟩ := this
      obtain ⟨kvs, hp, f⟩ := Step.freezeD g ed
      refine ⟨_, ev, .inr ⟨p, _, rfl, hp, trivial, fun od => ?_⟩⟩
      obtain ⟨G', s, rp⟩ := f od
      exact h _ G' _ s rp
  · exact h.elim
abbrev dC (d : D) : DE := fun _ O Q _ => Q d O
theorem mo_c (d : D) : Mo (dC d) := fun _ _ _ _ _ _ h _ x => h _ _ x
theorem d_c {v : V} {d : D} (h : PE X e (tC v)) (r : ∀ G, Rp X.K G v d) : DPE X L e (dC d) :=
  ⟨mo_c d, pe_imp h fun σ H Q ⟨G, O, ρ, g, _, q⟩ => q v G H (Step.refl g) (r G)⟩
theorem d_int {i j} : DPE X L (.Constant (.int i) j pos) (dC (.int i)) := d_c pe_int fun _ => .int i
theorem d_bl {i j} : DPE X L (.Constant (.bool i) j pos) (dC (.bl i)) := d_c pe_bl fun _ => .bl i
theorem d_str {i j} : DPE X L (.Constant (.str i) j pos) (dC (.str i)) := d_c pe_str fun _ => .str i
theorem d_non {j} : DPE X L (.Constant .none j pos) (dC .non) := d_c pe_non fun _ => .non
/-! ### operators -/
abbrev D2 := Ow → D → D → (D → Prop) → Prop
abbrev pu (o : D → D → (D → Prop) → Prop) : D2 := fun _ => o
def MoO (o : D2) : Prop := ∀ O x y Q Q', (∀ d, Q d → Q' d) → o O x y Q → o O x y Q'
def RunO (K : PySem.W.Frag) (B : Bo) (r : R2) (o : D2) : Prop := ∀ O G H x y a b Q, Good K B O G H → Rp K G x a → Rp K G y b → o O a b (fun d => kv K B O G H Q d O) → r x y H Q
structure OpD (X : Cx) (B : Bo) (f : Value → Value → Sem Value) (o : D2) : Prop where
  mo : MoO o
  run : ∃ r, OpR X f r ∧ RunO X.K B r o
abbrev dOp (o : D2) (ma mb : DE) : DE := fun ρ O Q E => ma ρ O (fun x O1 => mb ρ O1 (fun y O2 => o O2 x y fun d => Q d O2) E) E
theorem mo_op {o : D2} (ho : MoO o) (ha : Mo ma) (hb : Mo mb) : Mo (dOp o ma mb) := fun ρ O Q Q' E E' h hx x =>
  ha ρ _ _ _ _ _ (fun _ _ q => hb ρ _ _ _ _ _ (fun _ _ z => ho _ _ _ _ _ (fun _ => h _ _) z) hx q) hx x
theorem run_op {r : R2} {o : D2} {B : Bo} {Q : VK} (hr : RunO K B r o) (mo : MoO o) (ha : Mo ma) (hb : Mo mb)
    (h : up K B W (dOp o ma mb) σ H Q) : tOp r (up K B W ma) (up K B W mb) σ H Q := by
  obtain ⟨G, O, ρ, g, rs, q⟩ := h
  refine up_of ha g rs q fun x vx O1 G1 H1 q1 s1 r1 => ?_
  refine up_of hb s1.good (rs.step s1) (mo_step hb s1 q1) fun y vy O2 G2 H2 q2 s2 r2 => ?_
  exact hr O2 G2 H2 vx vy x y Q s2.good (r1.mono s2.grow) r2 (mo _ _ _ _ _ (fun _ z => z.step (s1.trans s2)) q2)
theorem d_op {op : Operator} {o : D2} (ho : OpD X L.B (binaryOp op) o) (ha : DPE X L a ma) (hb : DPE X L b mb) : DPE X L (.BinOp a op b pos) (dOp o ma mb) := by
  obtain ⟨mo, r, hr, h⟩ := ho
  exact ⟨mo_op mo ha.mo hb.mo, pe_imp (pe_op hr ha.run hb.run) fun σ H Q q => run_op h mo ha.mo hb.mo q⟩
theorem d_cmp {op : CmpOp} {o : D2} (ho : OpD X L.B (compareOp op) o) (ha : DPE X L a ma) (hb : DPE X L b mb) (hm : behindInMarks op b = false) : DPE X L (.Compare a [op] [b] pos) (dOp o ma mb) := by
  obtain ⟨mo, r, hr, h⟩ := ho
  exact ⟨mo_op mo ha.mo hb.mo, pe_imp (pe_cmpR hr ha.run hb.run hm) fun σ H Q q => run_op h mo ha.mo hb.mo q⟩
/-- by a bool -/
def bc (c : Bool) (A B : Prop) : Prop := match c with
  | true => A
  | false => B
/-- a bool -/
abbrev bD : D → (Bool → Prop) → Prop
  | .bl b, Q => Q b
  | _, _ => False
theorem bD_mo {d : D} {Q Q' : Bool → Prop} (h : ∀ b, Q b → Q' b) (z : bD d Q) : bD d Q' := by
  cases d <;> first | exact h _ z | exact z
theorem bD_run {d : D} {v : V} {Q : Bool → Prop} (r : Rp K G v d) (z : bD d Q) : ∃ k, v = .bl k ∧ Q k := by
  cases r <;> first | exact ⟨_, rfl, z⟩ | exact z.elim
/-- a op b op' c -/
abbrev dChain (o o' : D2) (ma mb mc : DE) : DE := fun ρ O Q E => ma ρ O (fun x O1 => mb ρ O1 (fun y O2 => o O2 x y fun z => bD z fun k => bc k (mc ρ O2 (fun w O3 => o' O3 y w fun d => Q d O3) E) (Q (.bl false) O2)) E) E
theorem mo_chain {o o' : D2} (ho : MoO o) (ho' : MoO o') (ha : Mo ma) (hb : Mo mb) (hc : Mo mc) : Mo (dChain o o' ma mb mc) := fun ρ O Q Q' E E' h hx x =>
  ha ρ _ _ _ _ _ (fun _ _ q => hb ρ _ _ _ _ _ (fun _ _ z => ho _ _ _ _ _ (fun d y => bD_mo (fun k y => by
    cases k with
    | true => exact hc ρ _ _ _ _ _ (fun _ _ w => ho' _ _ _ _ _ (fun _ => h _ _) w) hx y
    | false => exact h _ _ y) y) z) hx q) hx x
theorem run_chain {r r' : R2} {o o' : D2} {B : Bo} {Q : VK} (h : RunO K B r o) (mo : MoO o) (h' : RunO K B r' o') (mo' : MoO o') (ha : Mo ma) (hb : Mo mb) (hc : Mo mc)
    (q : up K B W (dChain o o' ma mb mc) σ H Q) : tChain r r' (up K B W ma) (up K B W mb) (up K B W mc) σ H Q := by
  obtain ⟨G, O, ρ, g, rs, q⟩ := q
  refine up_of ha g rs q fun x vx O1 G1 H1 q1 s1 r1 => ?_
  refine up_of hb s1.good (rs.step s1) (mo_step hb s1 q1) fun y vy O2 G2 H2 q2 s2 r2 => ?_
  refine h O2 G2 H2 vx vy x y _ s2.good (r1.mono s2.grow) r2 (mo _ _ _ _ _ (fun z hz v G3 H3 s3 r3 => ?_) q2)
  have s13 := (s1.trans s2).trans s3
  obtain ⟨k, rfl, hz⟩ := bD_run r3 hz
  cases k with
  | true =>
    refine ⟨true, rfl, iteT ?_⟩
    refine up_of hc s3.good (rs.step s13) (mo_step hc s13 hz) fun w vw O4 G4 H4 q4 s4 r4 => ?_
    exact h' O4 G4 H4 vy vw y w Q s4.good (r2.mono (s3.trans s4).grow) r4 (mo' _ _ _ _ _ (fun _ z => z.step (s13.trans s4)) q4)
  | false => exact ⟨false, rfl, iteF (hz _ _ _ s13 (.bl false))⟩
theorem d_chain {op op' : CmpOp} {o o' : D2} (ho : OpD X L.B (compareOp op) o) (ho' : OpD X L.B (compareOp op') o') (ha : DPE X L a ma) (hb : DPE X L b mb) (hc : DPE X L c mc) (hm : lastMarks [op, op'] [b, c] = false) :
    DPE X L (.Compare a [op, op'] [b, c] pos) (dChain o o' ma mb mc) := by
  obtain ⟨mo, r, hr, h⟩ := ho
  obtain ⟨mo', r', hr', h'⟩ := ho'
  exact ⟨mo_chain mo mo' ha.mo hb.mo hc.mo, pe_imp (pe_chain hr hr' ha.run hb.run hc.run hm) fun σ H Q q => run_chain h mo h' mo' ha.mo hb.mo hc.mo q⟩
end
end EV
set_option Elab.async false
set_option linter.all false
set_option maxRecDepth 100000
set_option maxHeartbeats 4000000
namespace EV
open PySem PySem.Spec PyProof.Rows L2
/-! ### handles -/
/-- what a handle holds -/
abbrev lk (O : Ow) : D → D
  | .opq (.ref p) => (O p).getD (.opq (.ref p))
  | d => d
def RpX (K : PySem.W.Frag) (G H : Hp) (v : V) (d : D) : Prop := Rp K G v d ∨ ∃ p, v = .ref p ∧ RpO K G H p d
theorem lk_of {O : Ow} {p : Addr} {d : D} (h : O p = some d) : lk O (.opq (.ref p)) = d := by unfold lk; simp [h]
section
variable {K : PySem.W.Frag} {B : Bo} {O : Ow} {G H : Hp}
theorem lk_rp {v : V} {d : D} (g : Good K B O G H) (r : Rp K G v d) : RpX K G H v (lk O d) := by
  cases r with
  | opq v =>
    cases v with
    | ref p =>
      cases e : O p with
      | none => exact .inl (by have q : lk O (.opq (.ref p)) = .opq (.ref p) := by unfold lk; simp [e]
                               rw [q]; exact .opq _)
      | some d => exact .inr ⟨p, rfl, by
          have q : lk O (.opq (.ref p)) = d := by unfold lk; simp [e]
          rw [q]; exact (g.own p d e).2.2⟩
    | _ => exact .inl (.opq _)
  | non => exact .inl .non
  | bl => exact .inl (.bl _)
  | int => exact .inl (.int _)
  | str => exact .inl (.str _)
  | lst a b => exact .inl (.lst a b)
  | tup a b => exact .inl (.tup a b)
  | dic a b => exact .inl (.dic a b)
  | ins a b => exact .inl (.ins a b)
  | exc a b c d => exact .inl (.exc a b c d)
  | lam a b c => exact .inl (.lam a b c)
theorem RpX.lst {v : V} {ds : List D} (s : Sub G H) (h : RpX K G H v (.lst ds)) : ∃ a vs, v = .ref a ∧ H a = some (.lst vs) ∧ RpL K G vs ds := by
  rcases h with h | ⟨p, rfl, vs, e, r⟩
  · cases h with | lst a b => exact ⟨_, _, rfl, s _ _ a, b⟩
  · exact ⟨p, vs, rfl, e, r⟩
theorem RpX.tup {v : V} {ds : List D} (s : Sub G H) (h : RpX K G H v (.tup ds)) : ∃ a vs, v = .ref a ∧ SqT K H a vs ∧ RpL K G vs ds := by
  rcases h with h | ⟨p, rfl, r⟩
  · cases h with | tup a b => exact ⟨_, _, rfl, s.sqT a, b⟩
  · exact r.elim
theorem RpX.dic {v : V} {ds : List (Key × D)} (s : Sub G H) (h : RpX K G H v (.dic ds)) : ∃ a vs, v = .ref a ∧ Rd H a (.dK vs) ∧ RpK K G vs ds := by
  rcases h with h | ⟨p, rfl, vs, e, r⟩
  · cases h with | dic a b => exact ⟨_, _, rfl, .inr ⟨_, s _ _ a⟩, b⟩
  · exact ⟨p, vs, rfl, .inl e, r⟩
theorem RpX.ins {v : V} {C : Addr} {ds : List (Str × D)} (s : Sub G H) (h : RpX K G H v (.ins C ds)) : ∃ a dx fs, v = .ref a ∧ H a = some (.ins C dx fs) ∧ RpF K G fs ds := by
  rcases h with h | ⟨p, rfl, dx, fs, e, r⟩
  · cases h with | ins a b => exact ⟨_, _, _, rfl, s _ _ a, b⟩
  · exact ⟨p, dx, fs, rfl, e, r⟩
theorem RpX.str {v : V} {x : Str} (h : RpX K G H v (.str x)) : v = .str x := by
  rcases h with h | ⟨p, rfl, r⟩
  · cases h; rfl
  · exact r.elim
theorem RpX.int {v : V} {x : Int} (h : RpX K G H v (.int x)) : v = .int x := by
  rcases h with h | ⟨p, rfl, r⟩
  · cases h; rfl
  · exact r.elim
theorem RpX.bl {v : V} {x : Bool} (h : RpX K G H v (.bl x)) : v = .bl x := by
  rcases h with h | ⟨p, rfl, r⟩
  · cases h; rfl
  · exact r.elim
theorem RpX.non {v : V} (h : RpX K G H v .non) : v = .non := by
  rcases h with h | ⟨p, rfl, r⟩
  · cases h; rfl
  · exact r.elim
theorem RpL.isEmpty {vs : List V} {ds : List D} (r : RpL K G vs ds) : vs.isEmpty = ds.isEmpty := by cases r <;> rfl
end
section
variable {X : Cx} {L : Pl} {e a b c : Expr} {es rest : List Expr} {m ma mb mc : DE} {mt mu : DT} {mA : DA} {pos p : Pos}
variable {K : PySem.W.Frag} {B : Bo} {O : Ow} {W : L2.St → XK} {G H : Hp} {σ : L2.St} {ρ : Slots}
/-! ### truth -/
abbrev truD : D → (Bool → Prop) → Prop
  | .non, Q => Q false
  | .bl b, Q => Q b
  | .int i, Q => Q (i != 0)
  | .str y, Q => y.length ≤ sizeLine ∧ Q ((y.length : Int) != 0)
  | .lst xs, Q => Q (!xs.isEmpty)
  | .tup xs, Q => Q (!xs.isEmpty)
  | _, _ => False
theorem truD_mo : ∀ {d : D} {Q Q' : Bool → Prop}, (∀ b, Q b → Q' b) → truD d Q → truD d Q'
  | .non, _, _, h, x => h _ x
  | .bl _, _, _, h, x => h _ x
  | .int _, _, _, h, x => h _ x
  | .str _, _, _, h, x => ⟨x.1, h _ x.2⟩
  | .lst _, _, _, h, x => h _ x
  | .tup _, _, _, h, x => h _ x
theorem truD_run {d : D} {v : V} {Q : Bool → Prop} (s : Sub G H) (r : RpX K G H v d) (h : truD d Q) : ∃ k, TruV K v H k ∧ Q k := by
  cases d with
  | non => rw [r.non]; exact ⟨_, rfl, h⟩
  | bl b => rw [r.bl]; exact ⟨_, rfl, h⟩
  | int i => rw [r.int]; exact ⟨_, rfl, h⟩
  | str x => rw [r.str]; exact ⟨_, ⟨h.1, rfl⟩, h.2⟩
  | lst q => obtain ⟨a, vs, rfl, e, rl⟩ := r.lst s; exact ⟨_, .inl ⟨_, .inl (.inl e), rfl⟩, by rw [rl.isEmpty]; exact h⟩
  | tup q => obtain ⟨a, vs, rfl, e, rl⟩ := r.tup s; exact ⟨_, .inr (.inl ⟨_, e, rfl⟩), by rw [rl.isEmpty]; exact h⟩
  | _ => exact h.elim
/-! ### tests -/
abbrev dTest (m : DE) : DT := fun ρ O Q E => m ρ O (fun x O1 => truD (lk O1 x) fun b => Q b O1) E
theorem mo_test (h : Mo m) : Mo (dTest m) := fun ρ O Q Q' E E' q hx x => h ρ _ _ _ _ _ (fun _ _ z => truD_mo (fun _ => q _ _) z) hx x
theorem d_test (h : DPE X L a m) (he : ∀ whole, isTrue a X.env whole = (do let v ← whole; standAt a.pos; holding [v] (truthy v))) : DPT X L a (dTest m) := by
  refine ⟨mo_test h.mo, pt_imp (pt_truth h.run he) fun σ H Q ⟨G, O, ρ, g, rs, q⟩ => ?_⟩
  refine up_of h.mo g rs q fun x v O1 G1 H1 q1 s1 r1 => ?_
  obtain ⟨k, t, z⟩ := truD_run s1.good.sub (lk_rp s1.good r1) q1
  exact ⟨k, t, z _ _ s1⟩
/-- a comparison as a test: its answer is a bool -/
abbrev dTestB (m : DE) : DT := fun ρ O Q E => m ρ O (fun x O1 => bD x fun b => Q b O1) E
theorem mo_testB (h : Mo m) : Mo (dTestB m) := fun ρ O Q Q' E E' q hx x => h ρ _ _ _ _ _ (fun d _ z => bD_mo (fun _ => q _ _) z) hx x
theorem run_testB {Q : Bool → Hp → Prop} (hm : Mo m) (h : upT K B W (dTestB m) σ H Q) : up K B W m σ H (fun x H' => ∃ k, x = .bl k ∧ Q k H') := by
  obtain ⟨G, O, ρ, g, rs, q⟩ := h
  refine up_of hm g rs q fun x v O1 G1 H1 q1 s1 r1 => ?_
  obtain ⟨k, rfl, q1⟩ := bD_run r1 q1
  exact ⟨_, rfl, q1 _ _ s1⟩
theorem d_tcmp {op : CmpOp} {o : D2} (ho : OpD X L.B (compareOp op) o) (ha : DPE X L a ma) (hb : DPE X L b mb) (hm : behindInMarks op b = false) : DPT X L (.Compare a [op] [b] pos) (dTestB (dOp o ma mb)) := by
  obtain ⟨mo, r, hr, h⟩ := ho
  refine ⟨mo_testB (mo_op mo ha.mo hb.mo), pt_imp (pt_cmpR hr ha.run hb.run hm) fun σ H Q q => ?_⟩
  exact run_op h mo ha.mo hb.mo (run_testB (mo_op mo ha.mo hb.mo) q)
theorem d_tchain {op op' : CmpOp} {o o' : D2} (ho : OpD X L.B (compareOp op) o) (ho' : OpD X L.B (compareOp op') o') (ha : DPE X L a ma) (hb : DPE X L b mb) (hc : DPE X L c mc) (hm : lastMarks [op, op'] [b, c] = false) :
    DPT X L (.Compare a [op, op'] [b, c] pos) (dTestB (dChain o o' ma mb mc)) := by
  obtain ⟨mo, r, hr, h⟩ := ho
  obtain ⟨mo', r', hr', h'⟩ := ho'
  have mm := mo_chain mo mo' ha.mo hb.mo hc.mo
  refine ⟨mo_testB mm, pt_imp (pt_chain hr hr' ha.run hb.run hc.run hm) fun σ H Q q => ?_⟩
  exact run_chain h mo h' mo' ha.mo hb.mo hc.mo (run_testB mm q)
abbrev dAnd (t u : DT) : DT := fun ρ O Q E => t ρ O (fun c O1 => bc c (u ρ O1 Q E) (Q false O1)) E
abbrev dOr (t u : DT) : DT := fun ρ O Q E => t ρ O (fun c O1 => bc c (Q true O1) (u ρ O1 Q E)) E
abbrev dNot (t : DT) : DT := fun ρ O Q E => t ρ O (fun c O1 => Q (!c) O1) E
theorem mo_and (ht : Mo mt) (hu : Mo mu) : Mo (dAnd mt mu) := fun ρ O Q Q' E E' q hx x => ht ρ _ _ _ _ _ (fun c _ z => by cases c <;> first | exact hu ρ _ _ _ _ _ q hx z | exact q _ _ z) hx x
theorem mo_or (ht : Mo mt) (hu : Mo mu) : Mo (dOr mt mu) := fun ρ O Q Q' E E' q hx x => ht ρ _ _ _ _ _ (fun c _ z => by cases c <;> first | exact hu ρ _ _ _ _ _ q hx z | exact q _ _ z) hx x
theorem mo_not (ht : Mo mt) : Mo (dNot mt) := fun ρ O Q Q' E E' q hx x => ht ρ _ _ _ _ _ (fun _ _ z => q _ _ z) hx x
theorem d_and1 (h : DPT X L a mt) : DPW X L (.BoolOp .And [a] pos) mt := ⟨h.mo, pw_and1 h.run⟩
theorem d_or1 (h : DPT X L a mt) : DPW X L (.BoolOp .Or [a] pos) mt := ⟨h.mo, pw_or1 h.run⟩
/-- go on from a later state -/
theorem upT_on {R : Bool → Hp → Prop} {O1 : Ow} {G1 H1 : Hp} (mo : Mo mt) (rs : RpS K G σ ρ) (s : Step K B O G H O1 G1 H1) (h : mt ρ O1 (kb K B O G H R) (kx K B O G H (W σ))) : upT K B W mt σ H1 R :=
  ⟨G1, O1, ρ, s.good, rs.step s, mo ρ _ _ _ _ _ (fun _ _ z => z.step s) (fun _ _ z => z.step s) h⟩
theorem up_on {R : VK} {O1 : Ow} {G1 H1 : Hp} (mo : Mo m) (rs : RpS K G σ ρ) (s : Step K B O G H O1 G1 H1) (h : m ρ O1 (kv K B O G H R) (kx K B O G H (W σ))) : up K B W m σ H1 R :=
  ⟨G1, O1, ρ, s.good, rs.step s, mo ρ _ _ _ _ _ (fun _ _ z => z.step s) (fun _ _ z => z.step s) h⟩
theorem d_wand (h : DPT X L a mt) (hb : DPW X L (.BoolOp .And (b :: rest) pos) mu) : DPW X L (.BoolOp .And (a :: b :: rest) pos) (dAnd mt mu) := by
  refine ⟨mo_and h.mo hb.mo, pw_imp (pw_and h.run hb.run) fun σ H Q ⟨G, O, ρ, g, rs, q⟩ => ?_⟩
  refine upT_of h.mo g rs q fun c O1 G1 H1 q1 s1 => ?_
  cases c with
  | true => exact iteT (upT_on hb.mo rs s1 q1)
  | false => exact iteF (q1 _ _ s1)
theorem d_wor (h : DPT X L a mt) (hb : DPW X L (.BoolOp .Or (b :: rest) pos) mu) : DPW X L (.BoolOp .Or (a :: b :: rest) pos) (dOr mt mu) := by
  refine ⟨mo_or h.mo hb.mo, pw_imp (pw_or h.run hb.run) fun σ H Q ⟨G, O, ρ, g, rs, q⟩ => ?_⟩
  refine upT_of h.mo g rs q fun c O1 G1 H1 q1 s1 => ?_
  cases c with
  | false => exact iteF (upT_on hb.mo rs s1 q1)
  | true => exact iteT (q1 _ _ s1)
theorem DPW.pt (h : DPW X L e mt) : DPT X L e mt := ⟨h.mo, h.run.pt⟩
theorem d_tnot (h : DPT X L a mt) : DPT X L (.UnaryOp .Not a pos) (dNot mt) := by
  refine ⟨mo_not h.mo, pt_imp (pt_not h.run) fun σ H Q ⟨G, O, ρ, g, rs, q⟩ => ?_⟩
  exact upT_of h.mo g rs q fun c O1 G1 H1 q1 s1 => q1 _ _ s1
/-! ### and, or, not as values -/
abbrev dAndV (ma mb : DE) : DE := fun ρ O Q E => ma ρ O (fun x O1 => truD (lk O1 x) fun k => bc k (mb ρ O1 Q E) (Q x O1)) E
abbrev dOrV (ma mb : DE) : DE := fun ρ O Q E => ma ρ O (fun x O1 => truD (lk O1 x) fun k => bc k (Q x O1) (mb ρ O1 Q E)) E
abbrev dNotV (ma : DE) : DE := fun ρ O Q E => ma ρ O (fun x O1 => truD (lk O1 x) fun k => Q (.bl (!k)) O1) E
theorem mo_andV (ha : Mo ma) (hb : Mo mb) : Mo (dAndV ma mb) := fun ρ O Q Q' E E' q hx x => ha ρ _ _ _ _ _ (fun _ _ z => truD_mo (fun k y => by cases k <;> first | exact hb ρ _ _ _ _ _ q hx y | exact q _ _ y) z) hx x
theorem mo_orV (ha : Mo ma) (hb : Mo mb) : Mo (dOrV ma mb) := fun ρ O Q Q' E E' q hx x => ha ρ _ _ _ _ _ (fun _ _ z => truD_mo (fun k y => by cases k <;> first | exact hb ρ _ _ _ _ _ q hx y | exact q _ _ y) z) hx x
theorem mo_notV (ha : Mo ma) : Mo (dNotV ma) := fun ρ O Q Q' E E' q hx x => ha ρ _ _ _ _ _ (fun _ _ z => truD_mo (fun k y => q _ _ y) z) hx x
theorem d_one {op} (h : DPE X L a m) : DPE X L (.BoolOp op [a] pos) m := ⟨h.mo, pe_one h.run⟩
theorem d_and (ha : DPE X L a ma) (hb : DPE X L (.BoolOp .And (b :: rest) pos) mb) : DPE X L (.BoolOp .And (a :: b :: rest) pos) (dAndV ma mb) := by
  refine ⟨mo_andV ha.mo hb.mo, pe_imp (pe_andT ha.run hb.run) fun σ H Q ⟨G, O, ρ, g, rs, q⟩ => ?_⟩
  refine up_of ha.mo g rs q fun x v O1 G1 H1 q1 s1 r1 => ?_
  obtain ⟨k, t, z⟩ := truD_run s1.good.sub (lk_rp s1.good r1) q1
  refine ⟨k, t, ?_⟩
  cases k with
  | true => exact iteT (up_on hb.mo rs s1 z)
  | false => exact iteF (z _ _ _ s1 r1)
theorem d_or (ha : DPE X L a ma) (hb : DPE X L (.BoolOp .Or (b :: rest) pos) mb) : DPE X L (.BoolOp .Or (a :: b :: rest) pos) (dOrV ma mb) := by
  refine ⟨mo_orV ha.mo hb.mo, pe_imp (pe_orT ha.run hb.run) fun σ H Q ⟨G, O, ρ, g, rs, q⟩ => ?_⟩
  refine up_of ha.mo g rs q fun x v O1 G1 H1 q1 s1 r1 => ?_
  obtain ⟨k, t, z⟩ := truD_run s1.good.sub (lk_rp s1.good r1) q1
  refine ⟨k, t, ?_⟩
  cases k with
  | false => exact iteF (up_on hb.mo rs s1 z)
  | true => exact iteT (z _ _ _ s1 r1)
theorem d_not (ha : DPE X L a ma) : DPE X L (.UnaryOp .Not a pos) (dNotV ma) := by
  refine ⟨mo_notV ha.mo, pe_imp (pe_notT ha.run) fun σ H Q ⟨G, O, ρ, g, rs, q⟩ => ?_⟩
  refine up_of ha.mo g rs q fun x v O1 G1 H1 q1 s1 r1 => ?_
  obtain ⟨k, t, z⟩ := truD_run s1.good.sub (lk_rp s1.good r1) q1
  exact ⟨k, t, z _ _ _ s1 (.bl _)⟩
abbrev dIf (t : DT) (ma mb : DE) : DE := fun ρ O Q E => t ρ O (fun c O1 => bc c (ma ρ O1 Q E) (mb ρ O1 Q E)) E
theorem mo_if (ht : Mo mt) (ha : Mo ma) (hb : Mo mb) : Mo (dIf mt ma mb) := fun ρ O Q Q' E E' q hx x => ht ρ _ _ _ _ _ (fun c _ z => by cases c <;> first | exact hb ρ _ _ _ _ _ q hx z | exact ha ρ _ _ _ _ _ q hx z) hx x
theorem d_if (hc : DPT X L c mt) (ha : DPE X L a ma) (hb : DPE X L b mb) : DPE X L (.IfExp c a b pos) (dIf mt ma mb) := by
  refine ⟨mo_if hc.mo ha.mo hb.mo, pe_imp (pe_ifExp hc.run ha.run hb.run) fun σ H Q ⟨G, O, ρ, g, rs, q⟩ => ?_⟩
  refine upT_of hc.mo g rs q fun c O1 G1 H1 q1 s1 => ?_
  cases c with
  | true => exact iteT (up_on ha.mo rs s1 q1)
  | false => exact iteF (up_on hb.mo rs s1 q1)
/-! ### argument lists, displays -/
abbrev dNil : DA := fun _ O Q _ => Q [] O
abbrev dCons (ma : DE) (mr : DA) : DA := fun ρ O Q E => ma ρ O (fun x O1 => mr ρ O1 (fun xs O2 => Q (x :: xs) O2) E) E
theorem mo_nil : Mo dNil := fun _ _ _ _ _ _ q _ x => q _ _ x
theorem mo_cons (ha : Mo ma) (hr : Mo mA) : Mo (dCons ma mA) := fun ρ O Q Q' E E' q hx x => ha ρ _ _ _ _ _ (fun _ _ z => hr ρ _ _ _ _ _ (fun _ _ y => q _ _ y) hx z) hx x
theorem d_nil : DPA X L [] dNil := ⟨mo_nil, pa_imp pa_nil fun σ H Q ⟨G, O, ρ, g, rs, q⟩ => q _ _ _ (Step.refl g) .nil⟩
theorem d_cons (ha : DPE X L e m) (hr : DPA X L es mA) (hs : starEach (e :: es) X.env = (false, eval e X.env) :: starEach es X.env) : DPA X L (e :: es) (dCons m mA) := by
  refine ⟨mo_cons ha.mo hr.mo, pa_imp (pa_cons ha.run hr.run hs) fun σ H Q ⟨G, O, ρ, g, rs, q⟩ => ?_⟩
  refine up_of ha.mo g rs q fun x v O1 G1 H1 q1 s1 r1 => ?_
  exact upA_of hr.mo s1.good (rs.step s1) (mo_step hr.mo s1 q1) fun xs vs O2 G2 H2 q2 s2 r2 => q2 _ _ _ (s1.trans s2) (.cons (r1.mono s2.grow) r2)
abbrev dTup (mA : DA) : DE := fun ρ O Q E => mA ρ O (fun xs O1 => xs.length ≤ sizeLine ∧ Q (.tup xs) O1) E
abbrev dLst (mA : DA) : DE := fun ρ O Q E => mA ρ O (fun xs O1 => xs.length ≤ sizeLine ∧ Q (.lst xs) O1) E
theorem mo_tup (h : Mo mA) : Mo (dTup mA) := fun ρ O Q Q' E E' q hx x => h ρ _ _ _ _ _ (fun _ _ z => ⟨z.1, q _ _ z.2⟩) hx x
theorem mo_lst (h : Mo mA) : Mo (dLst mA) := fun ρ O Q Q' E E' q hx x => h ρ _ _ _ _ _ (fun _ _ z => ⟨z.1, q _ _ z.2⟩) hx x
theorem new_tup {vs : List V} {ds : List D} {q : Addr} (g : Good K B O G H) (n : H q = none) (r : RpL K G vs ds) : Rp K (upd G q (.tup vs)) (.ref q) (.tup ds) :=
  .tup (.inl (.inl upd_same)) (r.mono (Step.new g n).grow)
theorem new_lst {vs : List V} {ds : List D} {q : Addr} (g : Good K B O G H) (n : H q = none) (r : RpL K G vs ds) : Rp K (upd G q (.lst vs)) (.ref q) (.lst ds) :=
  .lst upd_same (r.mono (Step.new g n).grow)
theorem d_tup {x1} (h : DPA X L es mA) : DPE X L (.Tuple es x1 pos) (dTup mA) := by
  refine ⟨mo_tup h.mo, pe_imp (pe_tup h.run) fun σ H Q ⟨G, O, ρ, g, rs, q⟩ => ?_⟩
  exact upA_of h.mo g rs q fun xs vs O1 G1 H1 q1 s1 r1 => ⟨by rw [r1.length]; exact q1.1, fun p np => q1.2 _ _ _ (s1.trans (Step.new s1.good np)) (new_tup s1.good np r1)⟩
theorem d_lst (h : DPA X L es mA) : DPE X L (.List es pos) (dLst mA) := by
  refine ⟨mo_lst h.mo, pe_imp (pe_lst h.run) fun σ H Q ⟨G, O, ρ, g, rs, q⟩ => ?_⟩
  exact upA_of h.mo g rs q fun xs vs O1 G1 H1 q1 s1 r1 => ⟨by rw [r1.length]; exact q1.1, fun p np => q1.2 _ _ _ (s1.trans (Step.new s1.good np)) (new_lst s1.good np r1)⟩
/-- a new handle -/
theorem new_own {q : Addr} {o : HO} {d : D} (g : Good K B O G H) (n : H q = none) (r : RpO K G (upd H q o) q d) : Step K B O G H (oset O q d) G (upd H q o) :=
  Step.put g (g.freshG n) (g.nhid n) r (.inr n)
/-- a list of one's own -/
abbrev dLstO (mA : DA) : DE := fun ρ O Q E => mA ρ O (fun xs O1 => xs.length ≤ sizeLine ∧ ∀ p, O1 p = none → Q (.opq (.ref p)) (oset O1 p (.lst xs))) E
theorem mo_lstO (h : Mo mA) : Mo (dLstO mA) := fun ρ O Q Q' E E' q hx x => h ρ _ _ _ _ _ (fun _ _ z => ⟨z.1, fun p n => q _ _ (z.2 p n)⟩) hx x
theorem d_lstO (h : DPA X L es mA) : DPE X L (.List es pos) (dLstO mA) := by
  refine ⟨mo_lstO h.mo, pe_imp (pe_lst h.run) fun σ H Q ⟨G, O, ρ, g, rs, q⟩ => ?_⟩
  exact upA_of h.mo g rs q fun xs vs O1 G1 H1 q1 s1 r1 => ⟨by rw [r1.length]; exact q1.1, fun p np => q1.2 p (s1.good.fresh np) _ _ _ (s1.trans (new_own s1.good np ⟨vs, upd_same, r1⟩)) (.opq _)⟩
/-! ### built-ins by values -/
abbrev DC := Ow → List D → (D → Prop) → Prop
abbrev pc (o : List D → (D → Prop) → Prop) : DC := fun _ => o
def MoC (o : DC) : Prop := ∀ O x Q Q', (∀ d, Q d → Q' d) → o O x Q → o O x Q'
def RunC (K : PySem.W.Frag) (B : Bo) (r : List V → Hp → VK → Prop) (o : DC) : Prop := ∀ O G H vs ds Q, Good K B O G H → RpL K G vs ds → o O ds (fun d => kv K B O G H Q d O) → r vs H Q
structure CallD (X : Cx) (B : Bo) (f : Value) (o : DC) : Prop where
  mo : MoC o
  run : ∃ r, CallR X f r ∧ RunC X.K B r o
abbrev dCB (o : DC) (mA : DA) : DE := fun ρ O Q E => mA ρ O (fun xs O1 => o O1 xs fun d => Q d O1) E
theorem mo_cb {o : DC} (ho : MoC o) (h : Mo mA) : Mo (dCB o mA) := fun ρ O Q Q' E E' q hx x => h ρ _ _ _ _ _ (fun _ _ z => ho _ _ _ _ (fun _ => q _ _) z) hx x
theorem run_cb {r : List V → Hp → VK → Prop} {o : DC} {Q : VK} (hr : RunC K B r o) (mo : MoC o) (h : Mo mA)
    (q : up K B W (dCB o mA) σ H Q) : tCB r (upA K B W mA) σ H Q := by
  obtain ⟨G, O, ρ, g, rs, q⟩ := q
  exact upA_of h g rs q fun xs vs O1 G1 H1 q1 s1 r1 => hr O1 G1 H1 vs xs Q s1.good r1 (mo _ _ _ _ (fun _ z => z.step s1) q1)
theorem d_callB {x : Str} {id : String} {o : DC} (hc : CallD X L.B (.builtin id) o) (hg : Gl X x) (hm : X.mg x = none) (hv : bootBuiltins x = some (.builtin id)) (ha : DPA X L (e :: es) mA) (hn : x ≠ "__name__") (hdb : (x == ("__debug__" : Str)) = false)
    (he : starEach (e :: es) X.env = (false, eval e X.env) :: starEach es X.env) (hpl : (backTo pos (starEach es X.env)).any (·.1) = false) : DPE X L (.Call (.Name x p) (e :: es) [] pos) (dCB o mA) := by
  obtain ⟨mo, r, hr, h⟩ := hc
  exact ⟨mo_cb mo ha.mo, pe_imp (pe_callB hr hg hm hv ha.run hn hdb he hpl) fun σ H Q q => run_cb h mo ha.mo q⟩
theorem d_callTy {x : Str} {T : String} {o : DC} (hc : CallD X L.B (.type T) o) (hg : Gl X x) (hm : X.mg x = none) (hv : bootBuiltins x = some (.type T)) (ha : DPA X L (e :: es) mA) (hn : x ≠ "__name__") (hdb : (x == ("__debug__" : Str)) = false)
    (he : starEach (e :: es) X.env = (false, eval e X.env) :: starEach es X.env) (hpl : (backTo pos (starEach es X.env)).any (·.1) = false) : DPE X L (.Call (.Name x p) (e :: es) [] pos) (dCB o mA) := by
  obtain ⟨mo, r, hr, h⟩ := hc
  exact ⟨mo_cb mo ha.mo, pe_imp (pe_callTy hr hg hm hv ha.run hn hdb he hpl) fun σ H Q q => run_cb h mo ha.mo q⟩
end
/-! ### what a def promises of data -/
abbrev DSp := List D → Ow → QD → QX → Prop
/-- closed upward -/
def spM (sp : DSp) : DSp := fun ds O Q E => ∃ Q0 E0, sp ds O Q0 E0 ∧ (∀ d O, Q0 d O → Q d O) ∧ ∀ x O, E0 x O → E x O
theorem spM.of {sp : DSp} {ds : List D} {O : Ow} {Q : QD} {E : QX} (h : sp ds O Q E) : spM sp ds O Q E := ⟨Q, E, h, fun _ _ x => x, fun _ _ x => x⟩
def spD (K : PySem.W.Frag) (sp : DSp) : Sp := fun vs H Q E => ∃ G O ds, Good K bo0 O G H ∧ RpL K G vs ds ∧ spM sp ds O (kv K bo0 O G H Q) (kx K bo0 O G H E)
def spB (K : PySem.W.Frag) (sp : DSp) : Sp := fun vs H Q E => ∃ b l T ws G O ds, vs = .ref b :: ws ∧ Good K (boB b l T) O G H ∧ RpL K G ws ds ∧ spM sp ds O (kv K (boB b l T) O G H Q) (kx K (boB b l T) O G H E)
theorem no_hid {a : Addr} : ¬ Hid bo0 a := fun ⟨_, _, _, e, _⟩ => nomatch e
theorem Good.none {K : PySem.W.Frag} {B : Bo} {O : Ow} {G H : Hp} (g : Good K B O G H) : Good K bo0 O G H := ⟨g.sub, (fun _ _ _ e => nomatch e), (fun _ _ e => nomatch e), fun p d e => ⟨(g.own p d e).1, no_hid, (g.own p d e).2.2⟩⟩
theorem Step.lift {K : PySem.W.Frag} {B : Bo} {O O' : Ow} {G H G' H' : Hp} (g : Good K B O G H) (s : Step K bo0 O G H O' G' H') : Step K B O G H O' G' H' := by
  have hb : ∀ a, Hid B a → ∃ o, H a = some o ∧ G a = Option.none ∧ O a = Option.none := fun a h => by
    obtain ⟨o, e, _⟩ := g.hidH h
    exact ⟨o, e, g.hidG h, g.hidO h⟩
  refine ⟨s.grow, ⟨s.good.sub, fun b l T e => ?_, g.amb.trans s.grow, fun p d e => ⟨(s.good.own p d e).1, fun z => ?_, (s.good.own p d e).2.2⟩⟩, fun a o h _ n => s.keep a o h no_hid n, s.hid, s.still⟩
  · refine (g.box b l T e).step s.grow (fun a ha => ?_) fun a o ha h => ?_
    · obtain ⟨o, h, hG, hO⟩ := hb a ⟨b, l, T, e, ha⟩
      exact (s.hid _ _ h hG hO).1
    · rcases ha with ha | ⟨φ, rfl⟩
      · exact s.keep _ _ h no_hid (g.hidO ⟨b, l, T, e, ha⟩)
      · refine s.keep _ _ h no_hid ?_
        cases q : O a with
        | none => rfl
        | some d' =>
          have := (g.own a d' q).2.2
          cases d' <;> first
            | exact this.elim
            | (obtain ⟨vs, h', _⟩ := this; rw [h] at h'; cases h')
            | (obtain ⟨dx, fs, h', _⟩ := this; rw [h] at h'; cases h')
  · obtain ⟨o, h, hG, hO⟩ := hb p z
    have := (s.hid _ _ h hG hO).2
    rw [e] at this; cases this
/-- the box alone, without what is around -/
theorem Good.box0 {K : PySem.W.Frag} {B : Bo} {b l : Addr} {T : List (Addr × Str)} {O : Ow} {G H : Hp} (g : Good K B O G H) (e : B.bx = some (b, l, T)) : Good K (boB b l T) O G H := ⟨g.sub, fun b' l' T' e' => g.box b' l' T' (e.trans e'), (fun _ _ e => nomatch e), fun p d q => ⟨(g.own p d q).1, fun ⟨b', l', T', e', h⟩ => (g.own p d q).2.1 ⟨b', l', T', e.trans e', h⟩, (g.own p d q).2.2⟩⟩
theorem Step.lift0 {K : PySem.W.Frag} {B : Bo} {b l : Addr} {T : List (Addr × Str)} {O O' : Ow} {G H G' H' : Hp} (g : Good K B O G H) (e : B.bx = some (b, l, T)) (s : Step K (boB b l T) O G H O' G' H') : Step K B O G H O' G' H' := by
  have hb : ∀ {a : Addr}, Hid (boB b l T) a ↔ Hid B a := fun {a} => ⟨fun ⟨b', l', T', e', h⟩ => ⟨b', l', T', e.trans e', h⟩, fun ⟨b', l', T', e', h⟩ => ⟨b', l', T', e.symm.trans e', h⟩⟩
  exact ⟨s.grow, ⟨s.good.sub, fun b' l' T' e' => s.good.box b' l' T' (e.symm.trans e'), g.amb.trans s.grow, fun p d q => ⟨(s.good.own p d q).1, fun z => (s.good.own p d q).2.1 (hb.mpr z), (s.good.own p d q).2.2⟩⟩, fun a o h n z => s.keep a o h (fun y => n (hb.mp y)) z, s.hid, s.still⟩
theorem kv.lift {K : PySem.W.Frag} {B : Bo} {O O' : Ow} {G H : Hp} {Q : VK} {d : D} (g : Good K B O G H) (h : kv K B O G H Q d O') : kv K bo0 O G H Q d O' := fun v G' H' s r => h v G' H' (s.lift g) r
theorem kx.lift {K : PySem.W.Frag} {B : Bo} {O O' : Ow} {G H : Hp} {E : XK} {x : Xc} (g : Good K B O G H) (h : kx K B O G H E x O') : kx K bo0 O G H E x O' := fun d fs G' H' s a r => h d fs G' H' (s.lift g) a r
end EV
set_option Elab.async false
set_option linter.all false
set_option maxRecDepth 100000
set_option maxHeartbeats 4000000
namespace EV
open PySem PySem.Spec PyProof.Rows L2
section
variable {X : Cx} {L : Pl} {e a b c : Expr} {es rest : List Expr} {m ma mb mc : DE} {mt mu : DT} {mA : DA} {pos p : Pos}
variable {K : PySem.W.Frag} {B : Bo} {O : Ow} {W : L2.St → XK} {G H : Hp} {σ : L2.St} {ρ : Slots}
/-! ### calls of defs -/
abbrev dCall (sp : DSp) (mA : DA) : DE := fun ρ O Q E => mA ρ O (fun ds O1 => spM sp ds O1 Q E) E
theorem spM_mo {sp : DSp} {ds : List D} {O : Ow} {Q Q' : QD} {E E' : QX} (q : ∀ d O, Q d O → Q' d O) (x : ∀ d O, E d O → E' d O) (h : spM sp ds O Q E) : spM sp ds O Q' E' := by
  obtain ⟨Q0, E0, h, a, b⟩ := h
  exact ⟨Q0, E0, h, fun d O z => q _ _ (a _ _ z), fun d O z => x _ _ (b _ _ z)⟩
theorem mo_call {sp : DSp} (h : Mo mA) : Mo (dCall sp mA) := fun ρ O Q Q' E E' q hx x => h ρ _ _ _ _ _ (fun _ _ z => spM_mo q hx z) hx x
theorem d_call {CX : CXT} {k : Nat} {f : Addr} {fd : FuncData} {ps : List Str} {sp : DSp} {x : Str} (Fn : FnOk X.prog X.w X.K X.mg X.base CX k f fd ps (spD X.K sp)) (hr : Room k X.A) (hg : Gl X x) (hm : X.mg x = some (.ref f)) (hk : PySem.W.keepIn X.K (.ref f) = true) (hb : Binds X.K fd ps [])
    (hx : ∀ σ, PassesAt CX X σ (L.W σ)) (ha : DPA X L (e :: es) mA) (hdb : (x == ("__debug__" : Str)) = false) (he : starEach (e :: es) X.env = (false, eval e X.env) :: starEach es X.env) (hpl : (backTo pos (starEach es X.env)).any (·.1) = false) :
    DPE X L (.Call (.Name x p) (e :: es) [] pos) (dCall sp mA) := by
  refine ⟨mo_call ha.mo, pe_imp (pe_callSD Fn hr hg hm hk hb .nil hx ha.run hdb he hpl) fun σ H Q ⟨G, O, ρ, g, rs, q⟩ => ?_⟩
  refine upA_of ha.mo g rs q fun xs vs O1 G1 H1 q1 s1 r1 => ?_
  exact ⟨G1, O1, xs, s1.good.none, by rw [List.append_nil]; exact r1, spM_mo (fun d _ z => (z.step s1).lift s1.good) (fun x _ z => (z.step s1).lift s1.good) q1⟩
/-- f(box, ..) -/
abbrev dCallX (bx : Addr) (sp : DSp) (mA : DA) : DE := fun ρ O Q E => mA ρ O (fun ds O1 => match ds with
  | .opq (.ref b) :: r => b = bx ∧ spM sp r O1 Q E
  | _ => False) E
theorem mo_callX {sp : DSp} {bx : Addr} (h : Mo mA) : Mo (dCallX bx sp mA) := fun ρ O Q Q' E E' q hx x => h ρ _ _ _ _ _ (fun ds O1 z => by
  split at z
  · exact ⟨z.1, spM_mo q hx z.2⟩
  · exact z) hx x
theorem d_callX {CX : CXT} {k : Nat} {f bx lx : Addr} {T : List (Addr × Str)} {fd : FuncData} {ps : List Str} {sp : DSp} {x : Str} (Fn : FnOk X.prog X.w X.K X.mg X.base CX k f fd ps (spB X.K sp)) (hB : L.B.bx = some (bx, lx, T)) (hr : Room k X.A) (hg : Gl X x) (hm : X.mg x = some (.ref f)) (hk : PySem.W.keepIn X.K (.ref f) = true) (hb : Binds X.K fd ps [])
    (hx : ∀ σ, PassesAt CX X σ (L.W σ)) (ha : DPA X L (e :: es) mA) (hdb : (x == ("__debug__" : Str)) = false) (he : starEach (e :: es) X.env = (false, eval e X.env) :: starEach es X.env) (hpl : (backTo pos (starEach es X.env)).any (·.1) = false) :
    DPE X L (.Call (.Name x p) (e :: es) [] pos) (dCallX bx sp mA) := by
  refine ⟨mo_callX ha.mo, pe_imp (pe_callSD Fn hr hg hm hk hb .nil hx ha.run hdb he hpl) fun σ H Q ⟨G, O, ρ, g, rs, q⟩ => ?_⟩
  refine upA_of ha.mo g rs q fun xs vs O1 G1 H1 q1 s1 r1 => ?_
  rw [List.append_nil]
  split at q1
  · rename_i b r
    obtain ⟨rfl, q1⟩ := q1
    cases r1 with
    | cons r2 r3 =>
      cases r2
      exact ⟨b, lx, T, _, G1, O1, r, rfl, s1.good.box0 hB, r3, spM_mo (fun d _ z v G' H' t rv => z v G' H' (s1.trans (t.lift0 s1.good hB)) rv) (fun x _ z d fs G' H' t a rf => z d fs G' H' (s1.trans (t.lift0 s1.good hB)) a rf) q1⟩
  · exact q1.elim
/-! ### subscripts, slices -/
def ixP : D → D → (D → Prop) → Prop
  | .lst xs, .int i, Q => match atI xs i with
    | some d => Q d
    | none => False
  | .tup xs, .int i, Q => match atI xs i with
    | some d => Q d
    | none => False
  | .str z, .int i, Q => z.length ≤ sizeLine ∧ match atI z.cps.toList i with
    | some c => Q (.str ⟨#[c]⟩)
    | none => False
  | _, _, _ => False
abbrev ixD : D2 := fun O x y Q => ixP (lk O x) y Q
theorem ixP_mo {x y : D} {Q Q' : D → Prop} (h : ∀ d, Q d → Q' d) (z : ixP x y Q) : ixP x y Q' := by
  unfold ixP at z ⊢
  split at z
  · split at z
    · exact h _ z
    · exact z
  · split at z
    · exact h _ z
    · exact z
  · refine ⟨z.1, ?_⟩
    obtain ⟨_, z⟩ := z
    split at z
    · exact h _ z
    · exact z
  · exact z
theorem ixD_mo : MoO ixD := fun O x y Q Q' h z => ixP_mo h z
theorem RpL.atI {vs : List V} {ds : List D} {i : Int} {d : D} (r : RpL K G vs ds) (h : L2.atI ds i = some d) : ∃ v, L2.atI vs i = some v ∧ Rp K G v d := by
  unfold L2.atI at h ⊢
  rw [r.length]
  cases e : ixN ds.length i with
  | none => rw [e] at h; cases h
  | some j => rw [e] at h; exact r.get h
theorem d_ix (ha : DPE X L a ma) (hb : DPE X L b mb) (hs : PlainIx b) : DPE X L (.Subscript a b pos) (dOp ixD ma mb) := by
  refine ⟨mo_op ixD_mo ha.mo hb.mo, pe_imp (pe_ix ix_seq ha.run hb.run hs) fun σ H Q q => run_op (fun O G H x y a b Q g r1 r2 h => ?_) ixD_mo ha.mo hb.mo q⟩
  have r1 := lk_rp g r1
  unfold ixD ixP at h
  split at h
  · rename_i e0
    rw [e0] at r1
    split at h
    · rename_i d e
      obtain ⟨p, vs, rfl, s, rl⟩ := r1.lst g.sub
      cases r2
      obtain ⟨v, e1, r3⟩ := rl.atI e
      exact .inl ⟨_, _, _, v, rfl, rfl, .inl (.inl s), e1, h _ _ _ (Step.refl g) r3⟩
    · exact h.elim
  · rename_i e0
    rw [e0] at r1
    split at h
    · rename_i d e
      obtain ⟨p, vs, rfl, s, rl⟩ := r1.tup g.sub
      cases r2
      obtain ⟨v, e1, r3⟩ := rl.atI e
      exact .inr (.inl ⟨_, _, _, v, rfl, rfl, s, e1, h _ _ _ (Step.refl g) r3⟩)
    · exact h.elim
  · rename_i e0
    rw [e0] at r1
    obtain ⟨hz, h⟩ := h
    split at h
    · rename_i d e
      cases r1.str
      cases r2
      exact .inr (.inr ⟨_, _, _, rfl, rfl, hz, e, h _ _ _ (Step.refl g) (.str _)⟩)
    · exact h.elim
  · exact h.elim
abbrev DO := Slots → Ow → (Option Int → Ow → Prop) → QX → Prop
def ko (K : PySem.W.Frag) (B : Bo) (O : Ow) (G H : Hp) (Q : Option Int → Hp → Prop) : Option Int → Ow → Prop := fun b O' => ∀ G' H', Step K B O G H O' G' H' → Q b H'
def upO (K : PySem.W.Frag) (B : Bo) (W : L2.St → XK) (m : DO) : TO := fun σ H Q => ∃ G O ρ, Good K B O G H ∧ RpS K G σ ρ ∧ m ρ O (ko K B O G H Q) (kx K B O G H (W σ))
structure DPO (X : Cx) (L : Pl) (e : Option Expr) (m : DO) : Prop where
  mo : Mo m
  run : PO X e (upO X.K L.B L.W m)
theorem po_imp {e : Option Expr} {t t' : TO} (h : PO X e t) (i : ∀ σ H Q, t' σ H Q → t σ H Q) : PO X e t' := ⟨fun pins s σ H Q I q => h.run pins s σ H Q I (i _ _ _ q)⟩
abbrev dNoPart : DO := fun _ O Q _ => Q none O
abbrev dPart (m : DE) : DO := fun ρ O Q E => m ρ O (fun d O1 => match d with | .int i => Q (some i) O1 | _ => False) E
theorem d_nopart : DPO X L none dNoPart := ⟨fun _ _ _ _ _ _ q _ x => q _ _ x, po_imp po_none fun σ H Q ⟨G, O, ρ, g, rs, q⟩ => q _ _ (Step.refl g)⟩
theorem mo_part (h : Mo m) : Mo (dPart m) := fun ρ O Q Q' E E' q hx x => h ρ _ _ _ _ _ (fun d _ z => by cases d <;> first | exact q _ _ z | exact z) hx x
theorem d_part (h : DPE X L e m) : DPO X L (some e) (dPart m) := by
  refine ⟨mo_part h.mo, po_imp (po_some h.run) fun σ H Q ⟨G, O, ρ, g, rs, q⟩ => ?_⟩
  refine up_of h.mo g rs q fun x v O1 G1 H1 q1 s1 r1 => ?_
  cases r1 <;> first
    | exact ⟨_, rfl, q1 _ _ s1⟩
    | exact q1.elim
def cutD (xs : List D) (lo hi : Option Int) : List D := (xs.drop (HT.sIx xs.length 0 lo)).take (HT.sIx xs.length xs.length hi - HT.sIx xs.length 0 lo)
theorem RpL.cut {vs : List V} {ds : List D} (r : RpL K G vs ds) (lo hi : Option Int) : RpL K G (cutV vs lo hi) (cutD ds lo hi) := by
  unfold cutV cutD
  rw [r.length]
  exact (r.drop _).take _
def slD : D → Option Int → Option Int → (D → Prop) → Prop
  | .lst xs, lo, hi, Q => Q (.lst (cutD xs lo hi))
  | .tup xs, lo, hi, Q => ¬ (HT.sIx xs.length 0 lo = 0 ∧ HT.sIx xs.length xs.length hi = xs.length) ∧ Q (.tup (cutD xs lo hi))
  | .str z, lo, hi, Q => z.length ≤ sizeLine ∧ Q (.str (cutS z lo hi))
  | _, _, _, _ => False
theorem slD_mo : ∀ {x lo hi Q Q'}, (∀ d, Q d → Q' d) → slD x lo hi Q → slD x lo hi Q'
  | .lst _, _, _, _, _, h, z => h _ z
  | .tup _, _, _, _, _, h, z => ⟨z.1, h _ z.2⟩
  | .str _, _, _, _, _, h, z => ⟨z.1, h _ z.2⟩
abbrev dSl (m : DE) (ml mh : DO) : DE := fun ρ O Q E => m ρ O (fun x O1 => ml ρ O1 (fun lo O2 => mh ρ O2 (fun hi O3 => slD (lk O3 x) lo hi fun d => Q d O3) E) E) E
theorem mo_sl {ml mh : DO} (h : Mo m) (hl : Mo ml) (hh : Mo mh) : Mo (dSl m ml mh) := fun ρ O Q Q' E E' q hx x => h ρ _ _ _ _ _ (fun _ _ z => hl ρ _ _ _ _ _ (fun _ _ y => hh ρ _ _ _ _ _ (fun _ _ w => slD_mo (fun _ => q _ _) w) hx y) hx z) hx x
theorem upO_of {R : Option Int → Hp → Prop} {P : Option Int → Ow → Prop} {mo : DO} (hm : Mo mo) (g : Good K B O G H) (r : RpS K G σ ρ) (h : mo ρ O P (kx K B O G H (W σ)))
    (k : ∀ b O' G' H', P b O' → Step K B O G H O' G' H' → R b H') : upO K B W mo σ H R :=
  ⟨G, O, ρ, g, r, hm ρ _ _ _ _ _ (fun d O' p G' H' s => k d O' G' H' p s) (fun _ _ x => x) h⟩
theorem d_sl {lo hi : Option Expr} {ml mh : DO} {p2 : Pos} (h : DPE X L e m) (hl : DPO X L lo ml) (hh : DPO X L hi mh) : DPE X L (.Subscript e (.Slice lo hi none p2) pos) (dSl m ml mh) := by
  refine ⟨mo_sl h.mo hl.mo hh.mo, pe_imp (pe_slice (sl_list.or (sl_tup.or sl_str)) h.run hl.run hh.run) fun σ H Q ⟨G, O, ρ, g, rs, q⟩ => ?_⟩
  refine up_of h.mo g rs q fun x v O1 G1 H1 q1 s1 r1 => ?_
  refine upO_of hl.mo s1.good (rs.step s1) (mo_step hl.mo s1 q1) fun l O2 G2 H2 q2 s2 => ?_
  have s12 := s1.trans s2
  refine upO_of hh.mo s2.good (rs.step s12) (mo_step hh.mo s12 q2) fun u O3 G3 H3 q3 s3 => ?_
  have s13 := s12.trans s3
  have r3 := lk_rp s3.good (r1.mono (s2.trans s3).grow)
  generalize lk O3 x = y at q3 r3
  cases y with
  | lst xs =>
    obtain ⟨p, vs, rfl, e, rl⟩ := r3.lst s3.good.sub
    refine .inl ⟨_, _, rfl, .inl (.inl e), fun p np => ?_⟩
    exact q3 _ _ _ (s13.trans (Step.new s3.good np)) (new_lst s3.good np (rl.cut _ _))
  | tup xs =>
    obtain ⟨p, vs, rfl, e, rl⟩ := r3.tup s3.good.sub
    refine .inr (.inl ⟨_, _, rfl, e, by rw [rl.length]; exact q3.1, fun p np => ?_⟩)
    exact q3.2 _ _ _ (s13.trans (Step.new s3.good np)) (new_tup s3.good np (rl.cut _ _))
  | str z => cases r3.str; exact .inr (.inr ⟨_, rfl, q3.1, q3.2 _ _ _ s13 (.str _)⟩)
  | _ => exact q3.elim
end
end EV
set_option Elab.async false
set_option linter.all false
set_option maxRecDepth 100000
set_option maxHeartbeats 4000000
namespace EV
open PySem PySem.Spec PyProof.Rows L2
/-! ### what a loop walks -/
abbrev IL := (Ow → Prop) × List D
abbrev DI := Slots → Ow → (IL → Ow → Prop) → QX → Prop
/-- J gives the data ds, one by one, while what was visible at G0 is so and the handles are as I says -/
def ItD (K : PySem.W.Frag) (B : Bo) (G0 : Hp) (J : It) (x : IL) : Prop := ∀ (i : Nat) (O : Ow) (G H : Hp), Good K B O G H → Sub G0 G → x.1 O →
  (∀ d, x.2[i]? = some d → J.go i H ∧ ∀ v H', J.yld i H v H' → ∃ G', Step K B O G H O G' H' ∧ Rp K G' v d) ∧ (i = x.2.length → J.stop i H)
def ki (K : PySem.W.Frag) (B : Bo) (O : Ow) (G H : Hp) (R : It → Hp → Prop) : IL → Ow → Prop := fun x O' => ∀ J G' H', Step K B O G H O' G' H' → ItD K B G' J x → R J H'
def upI (K : PySem.W.Frag) (B : Bo) (W : L2.St → XK) (m : DI) : TI := fun σ H R => ∃ G O ρ, Good K B O G H ∧ RpS K G σ ρ ∧ m ρ O (ki K B O G H R) (kx K B O G H (W σ))
structure DPI (X : Cx) (L : Pl) (tg e : Expr) (m : DI) : Prop where
  mo : Mo m
  run : PI X tg e (upI X.K L.B L.W m)
section
variable {X : Cx} {L : Pl} {e a b c tg : Expr} {es rest : List Expr} {m ma mb mc : DE} {mt mu : DT} {mA : DA} {pos p : Pos}
variable {K : PySem.W.Frag} {B : Bo} {O : Ow} {W : L2.St → XK} {G H : Hp} {σ : L2.St} {ρ : Slots} {I : Ow → Prop}
theorem pi_imp {t t' : TI} (h : PI X tg e t) (i : ∀ σ H Q, t' σ H Q → t σ H Q) : PI X tg e t' := ⟨fun pins s σ H Q I q => h.run pins s σ H Q I (i _ _ _ q)⟩
/-- a list, a tuple or a text -/
def iAny (K : PySem.W.Frag) (te : TE) : TI := fun σ H R => te σ H fun x H1 => (∃ a, x = .ref a ∧ (∃ xs, SqL K H1 a xs) ∧ R (Itl K a) H1) ∨ (∃ a, x = .ref a ∧ (∃ xs, SqT K H1 a xs) ∧ R (Itt K a) H1) ∨ ∃ y, x = .str y ∧ R (Its y) H1
theorem pi_any {te : TE} (he : PE X e te) : PI X tg e (iAny X.K te) := by
  refine ⟨fun pins s σ H R I h => ?_⟩
  refine thn (he.run pins s σ H _ I h) fun v s1 ⟨x, H1, I1, r1, q1⟩ => ?_
  rcases q1 with ⟨a, ex, ⟨xs, hq⟩, q⟩ | ⟨a, ex, ⟨xs, hq⟩, q⟩ | ⟨y, ex, q⟩
  · subst ex
    cases r1
    obtain ⟨its, rv, p, hz⟩ := I1.list hq
    refine wpAny_pyIter_list p.isList ?_
    refine ⟨s1.heap.objs.size, [s1.heap.objs.size], _, _, H1, rfl, I1.kept (t' := s1.toks) fun b o e => Heap.get?_push_of_some _ e, turn_list a _, ⟨_, Heap.get?_push_size _ rfl, rfl, rfl⟩, fun b hb => ?_, q⟩
    have e : b = s1.heap.objs.size := by simpa using hb
    subst e
    exact I1.fpOk (Nat.le_refl _) (I1.hok.fresh (Nat.le_refl _))
  · subst ex
    cases r1
    obtain ⟨its, rv, p, hz⟩ := I1.tuple hq
    refine wpAny_pyIter_tuple (show s1.heap.IsTuple a its.toArray from p) ?_
    refine ⟨s1.heap.objs.size, [s1.heap.objs.size], _, _, H1, rfl, I1.kept (t' := s1.toks) fun b o e => Heap.get?_push_of_some _ e, turn_tuple a _, ⟨_, Heap.get?_push_size _ rfl, rfl, rfl⟩, fun b hb => ?_, q⟩
    have e : b = s1.heap.objs.size := by simpa using hb
    subst e
    exact I1.fpOk (Nat.le_refl _) (I1.hok.fresh (Nat.le_refl _))
  · subst ex
    obtain ⟨t, rfl⟩ := r1
    cases ha : y.cps.all (· < 128)
    · exact wpAny_pyIter_wide ha (pi_one (tk := s1.toks) I1 _ (turn_str _ y t "str_iterator" (.inr rfl)) ⟨_, Heap.get?_push_size _ rfl, rfl, rfl⟩ q)
    · exact wpAny_pyIter_ascii ha (pi_one (tk := s1.toks) I1 _ (turn_str _ y t "str_ascii_iterator" (.inl rfl)) ⟨_, Heap.get?_push_size _ rfl, rfl, rfl⟩ q)
def charsD (y : Str) : List D := y.cps.toList.map fun c => .str ⟨#[c]⟩
abbrev tt1 : Ow → Prop := fun _ => True
/-- the items of a datum that is walked -/
abbrev itemsD (O : Ow) : D → (IL → Prop) → Prop
  | .lst xs, Q => Q (tt1, xs)
  | .tup xs, Q => Q (tt1, xs)
  | .str y, Q => Q (tt1, charsD y)
  | .opq (.ref p), Q => ∃ xs, O p = some (.lst xs) ∧ Q (fun O => O p = some (.lst xs), xs)
  | _, _ => False
theorem itemsD_mo {x : D} {Q Q' : IL → Prop} (h : ∀ d, Q d → Q' d) (z : itemsD O x Q) : itemsD O x Q' := by
  unfold itemsD at z ⊢
  split at z
  · exact h _ z
  · exact h _ z
  · exact h _ z
  · obtain ⟨xs, e, z⟩ := z; exact ⟨xs, e, h _ z⟩
  · exact z
abbrev dIter (m : DE) : DI := fun ρ O Q E => m ρ O (fun x O1 => itemsD O1 x fun l => Q l O1) E
theorem mo_iter (h : Mo m) : Mo (dIter m) := fun ρ O Q Q' E E' q hx x => h ρ _ _ _ _ _ (fun _ _ z => itemsD_mo (fun _ => q _ _) z) hx x
theorem getElem?_lt {α : Type} {l : List α} {i : Nat} {x : α} (h : l[i]? = some x) : i < l.length := by
  rcases Nat.lt_or_ge i l.length with q | q
  · exact q
  · rw [List.getElem?_eq_none q] at h; cases h
theorem itd_tup {a : Addr} {vs : List V} {ds : List D} {G0 : Hp} (s : SqT K G0 a vs) (r : RpL K G0 vs ds) : ItD K B G0 (Itt K a) (I, ds) := fun i O G H g sb _ => by
  refine ⟨fun d e => ?_, fun h => ⟨vs, g.sub.sqT (sb.sqT s), by rw [r.length]; exact Nat.le_of_eq h.symm⟩⟩
  obtain ⟨v, ev, rv⟩ := r.get e
  refine ⟨⟨vs, v, g.sub.sqT (sb.sqT s), ev⟩, fun x H' y => ?_⟩
  obtain ⟨rfl, y⟩ := y
  have := y vs (g.sub.sqT (sb.sqT s))
  rw [ev] at this
  cases this
  exact ⟨G, Step.refl g, rv.mono sb⟩
theorem itd_lst {a : Addr} {ds : List D} {G0 : Hp} (s : ∀ O G H, Good K B O G H → Sub G0 G → I O → ∃ vs, H a = some (.lst vs) ∧ RpL K G vs ds) : ItD K B G0 (Itl K a) (I, ds) := fun i O G H g sb hI => by
  obtain ⟨vs, e0, r⟩ := s O G H g sb hI
  have sq : SqL K H a vs := .inl (.inl e0)
  refine ⟨fun d e => ?_, fun h => ⟨vs, sq, by rw [r.length]; exact Nat.le_of_eq h.symm⟩⟩
  obtain ⟨v, ev, rv⟩ := r.get e
  refine ⟨⟨vs, v, sq, ev⟩, fun x H' y => ?_⟩
  obtain ⟨rfl, y⟩ := y
  have := y vs sq
  rw [ev] at this
  cases this
  exact ⟨G, Step.refl g, rv⟩
theorem itd_str {y : Str} {G0 : Hp} : ItD K B G0 (Its y) (I, charsD y) := fun i O G H g sb _ => by
  have hl : (charsD y).length = y.cps.size := by simp [charsD]
  refine ⟨fun d e => ?_, fun (h : i = (charsD y).length) => by rw [hl] at h; exact Nat.le_of_eq h.symm⟩
  have hi : i < y.cps.size := by rw [← hl]; exact getElem?_lt e
  refine ⟨hi, fun x H' q => ?_⟩
  obtain ⟨rfl, c, ec, rfl⟩ := q
  have e2 : (charsD y)[i]? = some (.str ⟨#[c]⟩) := by
    simp only [charsD, List.getElem?_map, Array.getElem?_toList, ec, Option.map_some]
  have e : (charsD y)[i]? = some d := e
  rw [e2] at e
  cases e
  exact ⟨G, Step.refl g, .str _⟩
theorem d_iter (h : DPE X L e m) : DPI X L tg e (dIter m) := by
  refine ⟨mo_iter h.mo, pi_imp (pi_any h.run) fun σ H Q ⟨G, O, ρ, g, rs, q⟩ => ?_⟩
  refine up_of h.mo g rs q fun x v O1 G1 H1 q1 s1 r1 => ?_
  cases r1 with
  | lst sq rl => exact .inl ⟨_, rfl, ⟨_, s1.good.sub.lstL sq⟩, q1 _ _ _ s1 (itd_lst fun O G H g sb _ => ⟨_, g.sub _ _ (sb _ _ sq), rl.mono sb⟩)⟩
  | tup sq rl => exact .inr (.inl ⟨_, rfl, ⟨_, s1.good.sub.sqT sq⟩, q1 _ _ _ s1 (itd_tup sq rl)⟩)
  | str y => exact .inr (.inr ⟨_, rfl, q1 _ _ _ s1 itd_str⟩)
  | opq v =>
    cases v with
    | ref p =>
      obtain ⟨xs, e, q1⟩ := q1
      obtain ⟨vs, ev, rv⟩ := (s1.good.own p _ e).2.2
      refine .inl ⟨_, rfl, ⟨_, .inl (.inl ev)⟩, q1 _ _ _ s1 (itd_lst fun O G H g sb hI => (g.own p _ hI).2.2)⟩
    | _ => exact q1.elim
  | non => exact q1.elim
  | bl => exact q1.elim
  | int => exact q1.elim
  | dic => exact q1.elim
  | ins => exact q1.elim
  | exc => exact q1.elim
  | lam => exact q1.elim
/-- range -/
def rngD (lo : Int) (n : Nat) : List D := (List.range n).map fun (i : Nat) => .int (lo + (i : Int))
theorem itd_rng {lo : Int} {n : Nat} {G0 : Hp} : ItD K B G0 (Itr lo n) (I, rngD lo n) := fun i O G H g sb _ => by
  have hl : (rngD lo n).length = n := by simp [rngD]
  refine ⟨fun d e => ?_, fun (h : i = (rngD lo n).length) => by rw [hl] at h; exact Nat.le_of_eq h.symm⟩
  have hi : i < n := by rw [← hl]; exact getElem?_lt e
  refine ⟨hi, fun x H' q => ?_⟩
  obtain ⟨rfl, rfl⟩ := q
  have e2 : (rngD lo n)[i]? = some (.int (lo + i)) := by
    simp only [rngD, List.getElem?_map, List.getElem?_range hi, Option.map_some]
  have e : (rngD lo n)[i]? = some d := e
  rw [e2] at e
  cases e
  exact ⟨G, Step.refl g, .int _⟩
abbrev rng1D : List D → (IL → Prop) → Prop
  | [.int j], Q => -(2 ^ 62) ≤ j ∧ j < 2 ^ 62 ∧ Q (tt1, rngD 0 j.toNat)
  | _, _ => False
theorem rng1D_mo {x : List D} {Q Q' : IL → Prop} (h : ∀ d, Q d → Q' d) (z : rng1D x Q) : rng1D x Q' := by
  unfold rng1D at z ⊢
  split at z
  · exact ⟨z.1, z.2.1, h _ z.2.2⟩
  · exact z
abbrev dRng1 (mA : DA) : DI := fun ρ O Q E => mA ρ O (fun xs O1 => rng1D xs fun l => Q l O1) E
theorem d_rng1 (hg : Gl X "range") (hm : X.mg "range" = none) (ha : DPA X L [a] mA) (hs : starEach [a] X.env = [(false, eval a X.env)]) : DPI X L tg (.Call (.Name "range" p) [a] [] pos) (dRng1 mA) := by
  refine ⟨fun ρ O Q Q' E E' q hx x => ha.mo ρ _ _ _ _ _ (fun _ _ z => rng1D_mo (fun _ => q _ _) z) hx x, pi_imp (pi_range1 hg hm ha.run hs) fun σ H Q ⟨G, O, ρ, g, rs, q⟩ => ?_⟩
  refine upA_of ha.mo g rs q fun xs vs O1 G1 H1 q1 s1 r1 => ?_
  unfold rng1D at q1
  split at q1
  · cases r1 with
    | cons r2 r3 =>
      cases r3
      cases r2
      exact ⟨_, rfl, q1.1, q1.2.1, q1.2.2 _ _ _ s1 itd_rng⟩
  · exact q1.elim
end
/-! ### targets -/
abbrev DG := D → Slots → (Slots → Prop) → Prop
def MoG (g : DG) : Prop := ∀ d ρ Q Q', (∀ r, Q r → Q' r) → g d ρ Q → g d ρ Q'
/-- but for the slots is they are as they were -/
def Off (is : List Nat) (σ σ' : L2.St) : Prop := σ'.length = σ.length ∧ ∀ j : Nat, j ∉ is → σ'[j]? = σ[j]?
theorem Off.refl (is : List Nat) (σ : L2.St) : Off is σ σ := ⟨rfl, fun _ _ => rfl⟩
theorem Off.trans {is js : List Nat} {σ σ' σ'' : L2.St} (a : Off is σ σ') (b : Off js σ' σ'') : Off (is ++ js) σ σ'' :=
  ⟨b.1.trans a.1, fun j h => (b.2 j fun z => h (List.mem_append_right _ z)).trans (a.2 j fun z => h (List.mem_append_left _ z))⟩
def upG (K : PySem.W.Frag) (B : Bo) (is : List Nat) (g : DG) : TG := fun v σ H Q => ∃ G O ρ d, Good K B O G H ∧ RpS K G σ ρ ∧ Rp K G v d ∧ g d ρ (fun ρ' => ∀ σ', RpS K G σ' ρ' → Off is σ σ' → Q σ' H)
structure DPG (X : Cx) (L : Pl) (tg : Expr) (is : List Nat) (g : DG) : Prop where
  mo : MoG g
  run : PG X tg (upG X.K L.B is g)
abbrev DGs := List D → Slots → (Slots → Prop) → Prop
def upGs (K : PySem.W.Frag) (B : Bo) (is : List Nat) (g : DGs) : TGs := fun vs σ H Q => ∃ G O ρ ds, Good K B O G H ∧ RpS K G σ ρ ∧ RpL K G vs ds ∧ g ds ρ (fun ρ' => ∀ σ', RpS K G σ' ρ' → Off is σ σ' → Q σ' H)
structure DPGs (X : Cx) (L : Pl) (tg : List Expr) (is : List Nat) (g : DGs) : Prop where
  mo : ∀ d ρ Q Q', (∀ r, Q r → Q' r) → g d ρ Q → g d ρ Q'
  run : PGs X tg (upGs X.K L.B is g)
section
variable {X : Cx} {L : Pl} {e a b c tg : Expr} {es rest : List Expr} {m ma mb mc : DE} {mt mu : DT} {mA : DA} {pos p : Pos}
variable {K : PySem.W.Frag} {B : Bo} {O : Ow} {W : L2.St → XK} {G H : Hp} {σ : L2.St} {ρ : Slots} {I : Ow → Prop}
theorem pg_imp {t t' : TG} (h : PG X tg t) (i : ∀ v σ H Q, t' v σ H Q → t v σ H Q) : PG X tg t' := ⟨fun pins s σ H v u Q I r q => h.run pins s σ H v u Q I r (i _ _ _ _ q)⟩
theorem pgs_imp {t t' : TGs} (h : PGs X es t) (i : ∀ v σ H Q, t' v σ H Q → t v σ H Q) : PGs X es t' := ⟨fun pins s σ H v u Q I r q => h.run pins s σ H v u Q I r (i _ _ _ _ q)⟩
def dgName (i : Nat) : DG := fun d ρ Q => Q (ρ.set i (.sh d))
/-- a slot set to a visible thing -/
theorem RpS.set {i : Nat} {v : V} {d : D} (r : RpS K G σ ρ) (h : Rp K G v d) : RpS K G (σ.set i (some v)) (ρ.set i (.sh d)) := by
  refine ⟨by rw [List.length_set, List.length_set]; exact r.len, fun j x e => ?_⟩
  by_cases ij : i = j
  · subst ij
    have hl := getElem?_lt e
    rw [List.length_set] at hl
    rw [List.getElem?_set_self hl] at e
    cases e
    exact ⟨v, List.getElem?_set_self (by rw [r.len]; exact hl), h⟩
  · rw [List.getElem?_set_ne ij] at e ⊢
    exact r.sh j x e
theorem dg_name {i : Nat} {x : Str} (hN : X.N.Nodup) (hi : X.N[i]? = some x) (hx : Loc X.env.scope x) (hf : X.fn x = true ∨ X.env.scope.names.lookup x = some .local) : DPG X L (.Name x pos) [i] (dgName i) :=
  ⟨fun d ρ Q Q' h z => h _ z, pg_imp (pg_name hN hi hx hf) fun v σ H Q ⟨G, O, ρ, d, g, rs, r, q⟩ => q _ (rs.set r) ⟨List.length_set .., fun j h => List.getElem?_set_ne (fun z => h (by simp [z]))⟩⟩
abbrev dgNil : DGs := fun ds ρ Q => match ds with
  | [] => Q ρ
  | _ => False
abbrev dgCons (g : DG) (gs : DGs) : DGs := fun ds ρ Q => match ds with
  | d :: r => g d ρ fun ρ' => gs r ρ' Q
  | [] => False
theorem dgs_nil : DPGs X L [] [] dgNil := by
  refine ⟨fun d ρ Q Q' h z => by cases d <;> first | exact h _ z | exact z, pgs_imp pgs_nil fun v σ H Q ⟨G, O, ρ, d, g, rs, r, q⟩ => ?_⟩
  cases r with
  | nil => exact ⟨rfl, q σ rs (Off.refl _ _)⟩
  | cons _ _ => exact q.elim
theorem dgs_cons {g : DG} {gs : DGs} {is js : List Nat} (hg : DPG X L e is g) (hs : DPGs X L es js gs) (h1 : (assignEach (e :: es) X.env).map (·.2) = assign e X.env :: (assignEach es X.env).map (·.2)) : DPGs X L (e :: es) (is ++ js) (dgCons g gs) := by
  refine ⟨fun d ρ Q Q' h z => ?_, pgs_imp (pgs_cons hg.run hs.run h1) fun v σ H Q ⟨G, O, ρ, d, gd, rs, r, q⟩ => ?_⟩
  · cases d with
    | nil => exact z
    | cons x xs => exact hg.mo _ _ _ _ (fun _ y => hs.mo _ _ _ _ h y) z
  · cases r with
    | nil => exact q.elim
    | cons r1 r2 =>
      refine ⟨_, _, rfl, G, O, ρ, _, gd, rs, r1, hg.mo _ _ _ _ (fun ρ' z σ' rs' o1 => ?_) q⟩
      exact ⟨G, O, ρ', _, gd, rs', r2, hs.mo _ _ _ _ (fun ρ2 y σ2 rs2 o2 => y σ2 rs2 (o1.trans o2)) z⟩
abbrev dgTup (n : Nat) (gs : DGs) : DG := fun d ρ Q => match d with
  | .tup xs => xs.length = n ∧ gs xs ρ Q
  | _ => False
theorem dg_tup {k n : Nat} {gs : DGs} {is : List Nat} (hc : X.calm = true) (h : DPGs X L es is gs) (hn : (assignEach es X.env).length = n) (hst : (assignEach es X.env).findIdx? (·.1) = none) : DPG X L (.Tuple es k pos) is (dgTup n gs) := by
  refine ⟨fun d ρ Q Q' h' z => ?_, pg_imp (pg_tup hc h.run hn hst) fun v σ H Q ⟨G, O, ρ, d, gd, rs, r, q⟩ => ?_⟩
  · unfold dgTup at z ⊢
    split at z
    · exact ⟨z.1, h.mo _ _ _ _ h' z.2⟩
    · exact z
  · unfold dgTup at q
    split at q
    · cases r with
      | tup sq rl => exact ⟨_, _, rfl, gd.sub.sqT sq, by rw [rl.length]; exact q.1, G, O, ρ, _, gd, rs, rl, q.2⟩
    · exact q.elim
/-! ### list comprehensions -/
def wipeD (ρ : Slots) : List Nat → Slots
  | [] => ρ
  | v :: vs => (wipeD ρ vs).set v .un
theorem RpS.wipe (r : RpS K G σ ρ) : ∀ vs : List Nat, RpS K G (L2.wipe σ vs) (wipeD ρ vs)
  | [] => r
  | v :: vs => by
    have q := RpS.wipe r vs
    unfold L2.wipe wipeD
    refine ⟨by rw [List.length_set, List.length_set]; exact q.len, fun j x e => ?_⟩
    by_cases ij : v = j
    · subst ij
      have hl := getElem?_lt e
      rw [List.length_set] at hl
      rw [List.getElem?_set_self hl] at e
      cases e
    · rw [List.getElem?_set_ne ij] at e ⊢
      exact q.sh j x e
/-- the turns of a comprehension; acc: what is gathered -/
def lcW (I : Ow → Prop) (g : DG) (tt : DT) (te : DE) (ρ : Slots) : List D → List D → Ow → (List D → Ow → Prop) → Prop
  | [], acc, O, Q => I O ∧ Q acc O
  | d :: ds, acc, O, Q => I O ∧ g d ρ fun ρ' => tt ρ' O (fun c O1 => bc c (te ρ' O1 (fun y O2 => acc.length < sizeLine ∧ lcW I g tt te ρ ds (acc ++ [y]) O2 Q) (fun _ _ => False)) (lcW I g tt te ρ ds acc O1 Q)) (fun _ _ => False)
theorem lcW_mo {g : DG} {tt : DT} {te : DE} (hg : MoG g) (ht : Mo tt) (he : Mo te) {ρ : Slots} {Q Q' : List D → Ow → Prop} (h : ∀ d O, Q d O → Q' d O) : ∀ {ds acc : List D} {O : Ow}, lcW I g tt te ρ ds acc O Q → lcW I g tt te ρ ds acc O Q'
  | [], _, _, z => ⟨z.1, h _ _ z.2⟩
  | d :: ds, acc, _, z => ⟨z.1, hg _ _ _ _ (fun ρ' z1 => ht _ _ _ _ _ _ (fun c _ z2 => by
      cases c with
      | true => exact (he _ _ _ _ _ _ (fun y _ z3 => ⟨z3.1, lcW_mo hg ht he h z3.2⟩) (fun _ _ x => x) z2)
      | false => exact (lcW_mo hg ht he h z2)) (fun _ _ x => x) z1) z.2⟩
abbrev dLc (mi : DI) (g : DG) (tt : DT) (te : DE) (vs : List Nat) : DE := fun ρ O Q E => mi ρ O (fun x O1 => lcW x.1 g tt te (wipeD ρ vs) x.2 [] O1 fun l O2 => Q (.lst l) O2) E
/-- the list stays one's own -/
abbrev dLcO (mi : DI) (g : DG) (tt : DT) (te : DE) (vs : List Nat) : DE := fun ρ O Q E => mi ρ O (fun x O1 => lcW x.1 g tt te (wipeD ρ vs) x.2 [] O1 fun l O2 => ∀ p, O2 p = none → Q (.opq (.ref p)) (oset O2 p (.lst l))) E
theorem mo_lc {mi : DI} {g : DG} {tt : DT} {te : DE} {vs : List Nat} (hi : Mo mi) (hg : MoG g) (ht : Mo tt) (he : Mo te) : Mo (dLc mi g tt te vs) := fun ρ O Q Q' E E' q hx x =>
  hi ρ _ _ _ _ _ (fun _ _ z => lcW_mo hg ht he (fun _ => q _) z) hx x
theorem mo_lcO {mi : DI} {g : DG} {tt : DT} {te : DE} {vs : List Nat} (hi : Mo mi) (hg : MoG g) (ht : Mo tt) (he : Mo te) : Mo (dLcO mi g tt te vs) := fun ρ O Q Q' E E' q hx x =>
  hi ρ _ _ _ _ _ (fun _ _ z => lcW_mo hg ht he (fun _ _ w p n => q _ _ (w p n)) z) hx x
structure DPTs (X : Cx) (L : Pl) (ifs : List Expr) (m : DT) : Prop where
  mo : Mo m
  run : PTs X ifs (upT X.K L.B L.W m)
abbrev dYes : DT := fun _ O Q _ => Q true O
theorem pts_imp {ifs : List Expr} {t t' : TT} (h : PTs X ifs t) (i : ∀ σ H Q, t' σ H Q → t σ H Q) : PTs X ifs t' := ⟨fun pins s σ H Q I q => h.run pins s σ H Q I (i _ _ _ q)⟩
theorem d_ifs0 : DPTs X L [] dYes := ⟨fun _ _ _ _ _ _ q _ x => q _ _ x, pts_imp pts_nil fun σ H Q ⟨G, O, ρ, g, rs, q⟩ => q _ _ (Step.refl g)⟩
theorem d_ifs1 (h : DPT X L c mt) : DPTs X L [c] mt := ⟨h.mo, pts_one h.run⟩
/-- the place within a comprehension: nothing is raised out of it -/
abbrev Pl.blk (L : Pl) : Pl := { L with W := fun _ _ _ _ => False }
theorem wipe_get {σ : L2.St} {j : Nat} : ∀ {vs : List Nat}, (L2.wipe σ vs)[j]? = if j ∈ vs ∧ j < σ.length then some none else σ[j]?
  | [] => by simp [L2.wipe]
  | v :: vs => by
    unfold L2.wipe
    by_cases hj : v = j
    · subst hj
      by_cases hl : v < σ.length
      · rw [List.getElem?_set_self (by rw [wipe_length]; exact hl), if_pos ⟨List.mem_cons_self, hl⟩]
      · rw [List.getElem?_eq_none (by rw [List.length_set, wipe_length]; omega), if_neg (fun z => hl z.2), List.getElem?_eq_none (by omega)]
    · rw [List.getElem?_set_ne hj, wipe_get (vs := vs)]
      by_cases hm : j ∈ vs ∧ j < σ.length
      · rw [if_pos hm, if_pos ⟨List.mem_cons_of_mem _ hm.1, hm.2⟩]
      · rw [if_neg hm, if_neg (fun z => hm ⟨by
          rcases List.mem_cons.mp z.1 with q | q
          · exact absurd q.symm hj
          · exact q, z.2⟩)]
theorem wipe_off {σ σ2 : L2.St} {is vs : List Nat} (o : Off is (L2.wipe σ vs) σ2) (h : ∀ i ∈ is, i ∈ vs) : L2.wipe σ2 vs = L2.wipe σ vs := by
  have hl : σ2.length = σ.length := by rw [o.1, wipe_length]
  refine List.ext_getElem? fun j => ?_
  rw [wipe_get, wipe_get]
  by_cases hm : j ∈ vs ∧ j < σ.length
  · rw [if_pos hm, if_pos (by rw [hl]; exact hm)]
  · rw [if_neg hm, if_neg (by rw [hl]; exact hm)]
    by_cases hv : j ∈ vs
    · have : σ.length ≤ j := by
        rcases Nat.lt_or_ge j σ.length with q | q
        · exact absurd ⟨hv, q⟩ hm
        · exact q
      rw [List.getElem?_eq_none (by omega), List.getElem?_eq_none (by omega)]
    · rw [o.2 j (fun z => hv (h j z)), wipe_get, if_neg hm]
/-- the gathering of a comprehension, by HandS's reading of it -/
theorem lc_run {σ0 : L2.St} {ρ0 : Slots} {g : DG} {tt : DT} {te : DE} {vs is : List Nat} {J : It} {O0 : Ow} {G0 H0 : Hp} {ds : List D} {Q : VK} {P : List D → Ow → Prop} {Dd : Addr} (hg : MoG g) (ht : Mo tt) (he : Mo te)
    (s0 : Step K B O G H O0 G0 H0) (rs : RpS K G σ0 ρ0) (it : ItD K B G0 J (I, ds)) (h : lcW I g tt te (wipeD ρ0 vs) ds [] O0 P) (nD : H0 Dd = none) (hv : ∀ i ∈ is, i ∈ vs)
    (hP : ∀ acc vacc O1 G1 H1, P acc O1 → Step K B O G H O1 G1 H1 → O1 Dd = none → G1 Dd = none → H Dd = none → H1 Dd = some (.lst vacc) → ¬ Hid B Dd → RpL K G1 vacc acc → Q (.ref Dd) H1) :
    ∃ W : Nat → Nat → Hp → Prop, (∃ m, W 0 m (upd H0 Dd (.lst []))) ∧ ∀ i m H, W i m H →
      (J.stop i H ∧ Q (.ref Dd) H) ∨ (J.go i H ∧ ∃ Nx : Hp → Prop, (∀ H', Nx H' → ∃ m', m' < m ∧ W (i + 1) m' H') ∧ ∀ x H', J.yld i H x H' → upG K B is g x (L2.wipe σ0 vs) H' fun σ2 H2 => L2.wipe σ2 vs = L2.wipe σ0 vs ∧ upT K B (fun _ _ _ _ => False) tt σ2 H2 fun b H3 =>
        if b = true then up K B (fun _ _ _ _ => False) te σ2 H3 fun y H4 => ∃ acc, H4 Dd = some (.lst acc) ∧ acc.length < sizeLine ∧ Nx (upd H4 Dd (.lst (acc ++ [y]))) else Nx H3) := by
  have nb : ¬ Hid B Dd := s0.good.nhid nD
  have nG : G0 Dd = none := s0.good.freshG nD
  have nO : O0 Dd = none := s0.good.fresh nD
  have upk : ∀ {O1 : Ow} {G1 H1 : Hp} (l : List V), Good K B O1 G1 H1 → G1 Dd = none → O1 Dd = none → (∀ φ, H1 Dd ≠ some (.ext φ)) → Good K B O1 G1 (upd H1 Dd (.lst l)) := fun {O1 G1 H1} l gd n1 n2 n3 => by
    refine ⟨fun a o e => ?_, fun b l T e => ?_, gd.amb, fun p d e => ?_⟩
    · rw [upd_ne (fun z => by rw [z, n1] at e; cases e)]; exact gd.sub a o e
    · refine (gd.box b l T e).step (Sub.refl _) (fun a ha => gd.hidG ⟨b, l, T, e, ha⟩) fun a o ha h => ?_
      rw [upd_ne (fun z => ?_)]
      · exact h
      · subst z
        rcases ha with ha | ⟨φ, rfl⟩
        · exact nb ⟨b, l, T, e, ha⟩
        · exact n3 φ h
    · obtain ⟨a, b, c⟩ := gd.own p d e
      exact ⟨a, b, c.mono (Sub.refl _) fun o h => by rw [upd_ne (fun z => by rw [z, n2] at e; cases e)]; exact h⟩
  by_cases hHD : ∃ o, H Dd = some o
  · -- it was there at first and is no more: so it was one's own, and is dropped
    obtain ⟨o, eo⟩ := hHD
    exfalso
    cases eO : O Dd with
    | none => have := s0.keep _ _ eo nb eO; rw [nD] at this; cases this
    | some d => exact absurd nD (s0.still _ (by rw [eo]; exact Option.some_ne_none _))
  have nH : H Dd = none := by
    cases e : H Dd with
    | none => rfl
    | some o => exact absurd ⟨o, e⟩ hHD
  refine ⟨fun i m H1 => ∃ G1 O1 acc vacc, m = ds.length - i ∧ i ≤ ds.length ∧ Step K B O G H O1 G1 H1 ∧ Sub G0 G1 ∧ G1 Dd = none ∧ O1 Dd = none ∧ H1 Dd = some (.lst vacc) ∧ RpL K G1 vacc acc ∧ lcW I g tt te (wipeD ρ0 vs) (ds.drop i) acc O1 P, ⟨ds.length, G0, O0, [], [], by simp, Nat.zero_le _, ?_, Sub.refl _, nG, nO, upd_same, .nil, by simpa using h⟩, ?_⟩
  · exact ⟨s0.grow, upk [] s0.good nG nO (fun φ z => by rw [nD] at z; cases z), fun a o e n z => by rw [upd_ne (fun z => by rw [z, nH] at e; cases e)]; exact s0.keep a o e n z, s0.hid, fun a h => upd_still a (s0.still a h)⟩
  · rintro i m H1 ⟨G1, O1, acc, vacc, rfl, hi, st, sb, gD, oD, hD, ra, hl⟩
    rcases Nat.lt_or_ge i ds.length with hlt | hge
    · have ei : ds[i]? = some ds[i] := List.getElem?_eq_getElem hlt
      have ed : ds.drop i = ds[i] :: ds.drop (i + 1) := List.drop_eq_getElem_cons hlt
      rw [ed] at hl
      obtain ⟨hI, hl⟩ := hl
      obtain ⟨go, yl⟩ := (it i O1 G1 H1 st.good sb hI).1 _ ei
      refine .inr ⟨go, fun H2 => ∃ G2 O2 acc vacc, Step K B O G H O2 G2 H2 ∧ Sub G0 G2 ∧ G2 Dd = none ∧ O2 Dd = none ∧ H2 Dd = some (.lst vacc) ∧ RpL K G2 vacc acc ∧ lcW I g tt te (wipeD ρ0 vs) (ds.drop (i + 1)) acc O2 P, fun H2 ⟨G2, O2, acc2, vacc2, a, b, c, c', d, e, f⟩ => ⟨ds.length - (i + 1), by omega, G2, O2, acc2, vacc2, rfl, by omega, a, b, c, c', d, e, f⟩, fun x H2 y => ?_⟩
      obtain ⟨G2, s2, rx⟩ := yl x H2 y
      have st2 := st.trans s2
      have gD2 : G2 Dd = none := (s2.hid _ _ hD gD oD).1
      have hD2 : H2 Dd = some (.lst vacc) := s2.keep _ _ hD nb oD
      refine ⟨G2, O1, wipeD ρ0 vs, ds[i], s2.good, (rs.step st2).wipe vs, rx, hg _ _ _ _ (fun ρ' z σ2 rs2 o2 => ⟨wipe_off o2 hv, ?_⟩) hl⟩
      refine ⟨G2, O1, ρ', s2.good, rs2, ht _ _ _ _ _ _ (fun c O3 z2 G3 H3 s3 => ?_) (fun _ _ x => x.elim) z⟩
      have st3 := st2.trans s3
      have gD3 := s3.hid _ _ hD2 gD2 oD
      have hD3 : H3 Dd = some (.lst vacc) := s3.keep _ _ hD2 nb oD
      cases c with
      | false => exact iteF ⟨G3, O3, acc, vacc, st3, (sb.trans s2.grow).trans s3.grow, gD3.1, gD3.2, hD3, ra.mono (s2.trans s3).grow, z2⟩
      | true =>
        refine iteT ⟨G3, O3, ρ', s3.good, rs2.step s3, he _ _ _ _ _ _ (fun y O4 z3 vy G4 H4 s4 ry => ?_) (fun _ _ x => x.elim) z2⟩
        have st4 := st3.trans s4
        have gD4 := s4.hid _ _ hD3 gD3.1 gD3.2
        have hD4 : H4 Dd = some (.lst vacc) := s4.keep _ _ hD3 nb gD3.2
        have ra4 : RpL K G4 vacc acc := ra.mono ((s2.trans s3).trans s4).grow
        refine ⟨vacc, hD4, by rw [ra4.length]; exact z3.1, G4, O4, acc ++ [y], vacc ++ [vy], ?_, ((sb.trans s2.grow).trans s3.grow).trans s4.grow, gD4.1, gD4.2, upd_same, ra4.append (.cons ry .nil), z3.2⟩
        exact ⟨st4.grow, upk _ s4.good gD4.1 gD4.2 (fun φ z => by rw [hD4] at z; cases z), fun a o e n z => by rw [upd_ne (fun z => by rw [z, nH] at e; cases e)]; exact st4.keep a o e n z, st4.hid, fun a h => upd_still a (st4.still a h)⟩
    · rw [List.drop_eq_nil_of_le hge] at hl
      obtain ⟨hI, hl⟩ := hl
      exact .inl ⟨(it i O1 G1 H1 st.good sb hI).2 (show i = ds.length by omega), hP acc vacc O1 G1 H1 hl st oD gD nH hD nb ra⟩
theorem lc_show {Q : VK} (acc : List D) (vacc : List V) (O1 : Ow) (G1 H1 : Hp) {Dd : Addr} (h : kv K B O G H Q (.lst acc) O1) (st : Step K B O G H O1 G1 H1) (oD : O1 Dd = none) (gD : G1 Dd = none) (nH : H Dd = none) (hD : H1 Dd = some (.lst vacc)) (nb : ¬ Hid B Dd) (ra : RpL K G1 vacc acc) : Q (.ref Dd) H1 := by
  have gr : Sub G1 (upd G1 Dd (.lst vacc)) := fun a o e => by rw [upd_ne (fun z => by rw [z, gD] at e; cases e)]; exact e
  have key : Step K B O G H O1 (upd G1 Dd (.lst vacc)) H1 := by
    refine ⟨st.grow.trans gr, ⟨fun a o e => ?_, fun b l T e => ?_, st.good.amb.trans gr, fun p d e => ?_⟩, st.keep, fun a o e n z => ?_, st.still⟩
    · by_cases z : a = Dd
      · subst z; rw [upd_same] at e; cases e; exact hD
      · rw [upd_ne z] at e; exact st.good.sub a o e
    · refine (st.good.box b l T e).step gr (fun a ha => ?_) fun a o _ h => h
      have ha : Hid B a := ⟨b, l, T, e, ha⟩
      rw [upd_ne (fun z => nb (by rw [← z]; exact ha))]; exact st.good.hidG ha
    · obtain ⟨a, b, c⟩ := st.good.own p d e
      exact ⟨by rw [upd_ne (fun z => by rw [z, oD] at e; cases e)]; exact a, b, c.mono gr fun _ h => h⟩
    · have := st.hid a o e n z
      exact ⟨by rw [upd_ne (fun z => by rw [z, nH] at e; cases e)]; exact this.1, this.2⟩
  exact h (.ref Dd) _ H1 key (.lst upd_same (ra.mono gr))
theorem lc_own {Q : VK} (acc : List D) (vacc : List V) (O1 : Ow) (G1 H1 : Hp) {Dd : Addr} (h : ∀ p, O1 p = none → kv K B O G H Q (.opq (.ref p)) (oset O1 p (.lst acc))) (st : Step K B O G H O1 G1 H1) (oD : O1 Dd = none) (gD : G1 Dd = none) (nH : H Dd = none) (hD : H1 Dd = some (.lst vacc)) (nb : ¬ Hid B Dd) (ra : RpL K G1 vacc acc) : Q (.ref Dd) H1 := by
  have key : Step K B O G H (oset O1 Dd (.lst acc)) G1 H1 := by
    refine ⟨st.grow, ⟨st.good.sub, st.good.box, st.good.amb, fun p d e => ?_⟩, st.keep, fun a o e n z => ?_, st.still⟩
    · by_cases z : p = Dd
      · subst z; rw [oset_same] at e; cases e; exact ⟨gD, nb, vacc, hD, ra⟩
      · rw [oset_ne z] at e; exact st.good.own p d e
    · have := st.hid a o e n z
      exact ⟨this.1, by rw [oset_ne (fun z => by rw [z, nH] at e; cases e)]; exact this.2⟩
  exact h Dd oD (.ref Dd) _ H1 key (.opq _)
theorem in_of {is : List Nat} {vs : List Nat} (hv : is.all (fun i => vs.contains i) = true) (i : Nat) (hi : i ∈ is) : i ∈ vs := by
  have := List.all_eq_true.mp hv i hi
  simpa using this
theorem d_lc {elt tg iter : Expr} {ifs : List Expr} {scope : Scope} {own : List (Str × Nat)} {is : List Nat} {mi : DI} {g : DG} {tt : DT} {te : DE} (hc : X.calm = true) (hN : X.N.Nodup) (hi : DPI X L tg iter mi) (ok : BlkOk X.N X.env.scope scope own)
    (hg : ∀ (s : Shared) (H : Hp) (C : Addr) (cl : List (Str × Addr)) (fp : List Addr), DPG (X.blk s H scope (compEnvC scope cl C X.env) fp) L.blk tg is g)
    (ht : ∀ (s : Shared) (H : Hp) (C : Addr) (cl : List (Str × Addr)) (fp : List Addr), DPTs (X.blk s H scope (compEnvC scope cl C X.env) fp) L.blk ifs tt)
    (he : ∀ (s : Shared) (H : Hp) (C : Addr) (cl : List (Str × Addr)) (fp : List Addr), DPE (X.blk s H scope (compEnvC scope cl C X.env) fp) L.blk elt te)
    (hv : is.all (fun i => (own.map (·.2)).contains i) = true) (hs : ∀ x, foldedSetIterable iter X.env x = pure x) :
    DPE X L (.ListComp elt [⟨tg, iter, ifs, 0⟩] scope pos) (dLc mi g tt te (own.map (·.2))) := by
  have mg := (hg X.s_0 X.H_0 0 [] []).mo
  have mt := (ht X.s_0 X.H_0 0 [] []).mo
  have me := (he X.s_0 X.H_0 0 [] []).mo
  refine ⟨mo_lc hi.mo mg mt me, pe_imp (pe_lc (g := upG X.K L.B is g) (tt := upT X.K L.B (fun _ _ _ _ => False) tt) (te := up X.K L.B (fun _ _ _ _ => False) te) hc hN hi.run ok (fun s H C cl fp => (hg s H C cl fp).run) (fun s H C cl fp => (ht s H C cl fp).run) (fun s H C cl fp => (he s H C cl fp).run) hs) fun σ H Q ⟨G, O, ρ, gd, rs, q⟩ => ?_⟩
  refine ⟨G, O, ρ, gd, rs, hi.mo ρ _ _ _ _ _ (fun x O1 z J G1 H1 s1 it Dd nD => ?_) (fun _ _ x => x) q⟩
  exact lc_run mg mt me s1 rs it z nD (in_of hv) fun acc vacc O1 G1 H1 p st a b c d e f => lc_show acc vacc O1 G1 H1 p st a b c d e f
end
end EV
set_option Elab.async false
set_option linter.all false
set_option maxRecDepth 100000
set_option maxHeartbeats 4000000
namespace EV
open PySem PySem.Spec PyProof.Rows L2
/-! ### statements -/
structure DEnds where
  nx : Slots → Ow → Prop
  rt : D → Ow → Prop
  bk : Slots → Ow → Prop := fun _ _ => False
  ct : Slots → Ow → Prop := fun _ _ => False
  ex : Xc → Slots → Ow → Prop := fun _ _ _ => False
structure DEnds.Le (A A' : DEnds) : Prop where
  nx : ∀ r O, A.nx r O → A'.nx r O
  rt : ∀ r O, A.rt r O → A'.rt r O
  bk : ∀ r O, A.bk r O → A'.bk r O
  ct : ∀ r O, A.ct r O → A'.ct r O
  ex : ∀ x r O, A.ex x r O → A'.ex x r O
abbrev DS := DEnds → Slots → Ow → Prop
def MoS (m : DS) : Prop := ∀ A A' ρ O, DEnds.Le A A' → m A ρ O → m A' ρ O
def dn (K : PySem.W.Frag) (L : Pl) (O : Ow) (G H : Hp) (Dn : Ends) : DEnds where
  nx := fun ρ O' => ∀ σ' G' H', Step K L.B O G H O' G' H' → RpS K G' σ' ρ → Dn.nx σ' H'
  rt := fun d O' => ∀ v G' H', Step K L.B O G H O' G' H' → Rp K G' v d → Dn.rt v H'
  bk := fun ρ O' => ∀ σ' G' H', Step K L.B O G H O' G' H' → RpS K G' σ' ρ → Dn.bk σ' H'
  ct := fun ρ O' => ∀ σ' G' H', Step K L.B O G H O' G' H' → RpS K G' σ' ρ → Dn.ct σ' H'
  ex := fun x ρ O' => ∀ σ' d fs G' H', Step K L.B O G H O' G' H' → RpS K G' σ' ρ → G' d = some (.xd fs) → RpF K G' fs x.2 → L.W σ' (.ref x.1) (some d) H'
def upS (K : PySem.W.Frag) (L : Pl) (m : DS) : TS := fun Dn σ H => ∃ G O ρ, Good K L.B O G H ∧ RpS K G σ ρ ∧ m (dn K L O G H Dn) ρ O
structure DPS (X : Cx) (L : Pl) (st : Stmt) (m : DS) : Prop where
  mo : MoS m
  run : PS X st (upS X.K L m)
structure DPSs (X : Cx) (L : Pl) (st : List Stmt) (m : DS) : Prop where
  mo : MoS m
  run : PSs X st (upS X.K L m)
section
variable {X : Cx} {L : Pl} {e a b c tg : Expr} {es rest : List Expr} {m ma mb mc : DE} {mt mu : DT} {mA : DA} {pos p : Pos} {st : Stmt} {sts : List Stmt} {ms mv : DS}
variable {K : PySem.W.Frag} {O O' : Ow} {G H G' H' : Hp} {σ : L2.St} {ρ : Slots}
theorem ps_imp {t t' : TS} (h : PS X st t) (i : ∀ Dn σ H, t' Dn σ H → t Dn σ H) : PS X st t' := ⟨fun pins s σ H Dn I q => h.run pins s σ H Dn I (i _ _ _ q)⟩
theorem pss_imp {t t' : TS} (h : PSs X sts t) (i : ∀ Dn σ H, t' Dn σ H → t Dn σ H) : PSs X sts t' := ⟨fun pins s σ H Dn I q => h.run pins s σ H Dn I (i _ _ _ q)⟩
theorem dn_step {Dn : Ends} (s : Step K L.B O G H O' G' H') : DEnds.Le (dn K L O G H Dn) (dn K L O' G' H' Dn) :=
  ⟨fun _ _ h σ' G2 H2 t r => h σ' G2 H2 (s.trans t) r, fun _ _ h v G2 H2 t r => h v G2 H2 (s.trans t) r, fun _ _ h σ' G2 H2 t r => h σ' G2 H2 (s.trans t) r, fun _ _ h σ' G2 H2 t r => h σ' G2 H2 (s.trans t) r,
    fun _ _ _ h σ' d fs G2 H2 t r a b => h σ' d fs G2 H2 (s.trans t) r a b⟩
/-- the wish of an expression's exceptions, from a statement's -/
theorem kx_of {Dn : Ends} {x : Xc} {O1 : Ow} (rs : RpS K G σ ρ) (h : (dn K L O G H Dn).ex x ρ O1) : kx K L.B O G H (L.W σ) x O1 := fun d fs G' H' s a r => h σ d fs G' H' s (rs.step s) a r
theorem upE {Dn : Ends} {R : VK} {P : QD} (mo : Mo m) (g : Good K L.B O G H) (r : RpS K G σ ρ) (h : m ρ O P (fun x O1 => (dn K L O G H Dn).ex x ρ O1))
    (k : ∀ d v O' G' H', P d O' → Step K L.B O G H O' G' H' → Rp K G' v d → R v H') : up K L.B L.W m σ H R :=
  up_of mo g r (mo ρ _ _ _ _ _ (fun _ _ z => z) (fun x _ z => kx_of r z) h) k
theorem upTE {Dn : Ends} {R : Bool → Hp → Prop} {P : Bool → Ow → Prop} (mo : Mo mt) (g : Good K L.B O G H) (r : RpS K G σ ρ) (h : mt ρ O P (fun x O1 => (dn K L O G H Dn).ex x ρ O1))
    (k : ∀ d O' G' H', P d O' → Step K L.B O G H O' G' H' → R d H') : upT K L.B L.W mt σ H R :=
  upT_of mo g r (mo ρ _ _ _ _ _ (fun _ _ z => z) (fun x _ z => kx_of r z) h) k
theorem upAE {Dn : Ends} {R : List V → Hp → Prop} {P : List D → Ow → Prop} (mo : Mo mA) (g : Good K L.B O G H) (r : RpS K G σ ρ) (h : mA ρ O P (fun x O1 => (dn K L O G H Dn).ex x ρ O1))
    (k : ∀ d v O' G' H', P d O' → Step K L.B O G H O' G' H' → RpL K G' v d → R v H') : upA K L.B L.W mA σ H R :=
  upA_of mo g r (mo ρ _ _ _ _ _ (fun _ _ z => z) (fun x _ z => kx_of r z) h) k
abbrev dNext : DS := fun A ρ O => A.nx ρ O
abbrev dSeq (t u : DS) : DS := fun A ρ O => t { A with nx := u A } ρ O
theorem DEnds.Le.refl (A : DEnds) : DEnds.Le A A := ⟨fun _ _ h => h, fun _ _ h => h, fun _ _ h => h, fun _ _ h => h, fun _ _ _ h => h⟩
theorem mo_next : MoS dNext := fun A A' ρ O l h => l.nx _ _ h
theorem mo_seq (h1 : MoS ms) (h2 : MoS mv) : MoS (dSeq ms mv) := fun A A' ρ O l h => h1 { A with nx := mv A } { A' with nx := mv A' } ρ O ⟨fun r _ z => h2 _ _ _ _ l z, l.rt, l.bk, l.ct, l.ex⟩ h
theorem d_snil : DPSs X L [] dNext := ⟨mo_next, pss_imp pss_nil fun Dn σ H ⟨G, O, ρ, g, rs, q⟩ => q _ _ _ (Step.refl g) rs⟩
theorem d_scons (h1 : DPS X L st ms) (h2 : DPSs X L sts mv) : DPSs X L (st :: sts) (dSeq ms mv) := by
  refine ⟨mo_seq h1.mo h2.mo, pss_imp (pss_cons h1.run h2.run) fun Dn σ H ⟨G, O, ρ, g, rs, q⟩ => ?_⟩
  refine ⟨G, O, ρ, g, rs, h1.mo { dn X.K L O G H Dn with nx := mv (dn X.K L O G H Dn) } _ _ _ ⟨fun r O1 z σ' G' H' s rs' => ?_, fun _ _ z => z, fun _ _ z => z, fun _ _ z => z, fun _ _ _ z => z⟩ q⟩
  exact ⟨G', O1, r, s.good, rs', h2.mo _ _ _ _ (dn_step s) z⟩
theorem d_sone (h1 : DPS X L st ms) : DPSs X L [st] ms := ⟨h1.mo, pss_one h1.run⟩
abbrev dRet (m : DE) : DS := fun A ρ O => m ρ O A.rt (fun x O1 => A.ex x ρ O1)
theorem d_ret (h : DPE X L e m) : DPS X L (.Return (some e) pos) (dRet m) := by
  refine ⟨fun A A' ρ O l z => h.mo _ _ _ _ _ _ l.rt (fun x _ y => l.ex _ _ _ y) z, ps_imp (ps_ret h.run) fun Dn σ H ⟨G, O, ρ, g, rs, q⟩ => ?_⟩
  exact upE h.mo g rs q fun d v O' G' H' z s r => z v G' H' s r
abbrev dDrop (m : DE) : DS := fun A ρ O => m ρ O (fun _ O1 => A.nx ρ O1) (fun x O1 => A.ex x ρ O1)
theorem d_expr (h : DPE X L e m) (hs : swapsWith e none pos.line X.env = pure false) : DPS X L (.Expr e pos) (dDrop m) := by
  refine ⟨fun A A' ρ O l z => h.mo _ _ _ _ _ _ (fun d _ y => l.nx _ _ y) (fun x _ y => l.ex _ _ _ y) z, ps_imp (ps_expr h.run hs) fun Dn σ H ⟨G, O, ρ, g, rs, q⟩ => ?_⟩
  exact upE h.mo g rs q fun d v O' G' H' z s r => z σ G' H' s (rs.step s)
abbrev dIfS (t : DT) (u v : DS) : DS := fun A ρ O => t ρ O (fun c O1 => bc c (u A ρ O1) (v A ρ O1)) (fun x O1 => A.ex x ρ O1)
theorem d_ifS {s1 s2 : List Stmt} (hc : DPT X L c mt) (h1 : DPSs X L s1 ms) (h2 : DPSs X L s2 mv) : DPS X L (.If c s1 s2 pos) (dIfS mt ms mv) := by
  refine ⟨fun A A' ρ O l z => hc.mo _ _ _ _ _ _ (fun d _ y => by cases d <;> first | exact h1.mo _ _ _ _ l y | exact h2.mo _ _ _ _ l y) (fun x _ y => l.ex _ _ _ y) z, ps_imp (ps_if hc.run h1.run h2.run) fun Dn σ H ⟨G, O, ρ, g, rs, q⟩ => ?_⟩
  refine upTE hc.mo g rs q fun d O' G' H' z s => ?_
  cases d with
  | true => exact iteT ⟨G', O', ρ, s.good, rs.step s, h1.mo _ _ _ _ (dn_step s) z⟩
  | false => exact iteF ⟨G', O', ρ, s.good, rs.step s, h2.mo _ _ _ _ (dn_step s) z⟩
abbrev dAsg (m : DE) (g : DG) : DS := fun A ρ O => m ρ O (fun d O1 => g d ρ fun ρ' => A.nx ρ' O1) (fun x O1 => A.ex x ρ O1)
theorem run_asg {g : DG} {is : List Nat} {Dn : Ends} (hm : Mo m) (hg : MoG g) (h : upS K L (dAsg m g) Dn σ H) : tAsg (up K L.B L.W m) (upG K L.B is g) Dn σ H := by
  obtain ⟨G, O, ρ, gd, rs, q⟩ := h
  refine upE hm gd rs q fun d v O' G' H' z s r => ?_
  exact ⟨G', O', ρ, d, s.good, rs.step s, r, hg _ _ _ _ (fun ρ' y σ' rs' _ => y σ' G' H' s rs') z⟩
theorem mo_asg {g : DG} (hm : Mo m) (hg : MoG g) : MoS (dAsg m g) := fun A A' ρ O l z => hm _ _ _ _ _ _ (fun d _ y => hg _ _ _ _ (fun _ => l.nx _ _) y) (fun x _ y => l.ex _ _ _ y) z
theorem d_asg {g : DG} {is : List Nat} (he : DPE X L e m) (hg : DPG X L tg is g) (hs : swapsWithSole [tg] e pos.line X.env = pure false) (hw : swappedStores [tg] e X.env = pure none) (h1 : (assignEach [tg] X.env).map (·.2) = [assign tg X.env]) :
    DPS X L (.Assign [tg] e pos) (dAsg m g) := ⟨mo_asg he.mo hg.mo, ps_imp (ps_asg he.run hg.run hs hw h1) fun Dn σ H q => run_asg he.mo hg.mo q⟩
theorem mog_name {i : Nat} : MoG (dgName i) := fun _ _ _ _ h z => h _ z
theorem d_set {i : Nat} {x : Str} {pos' : Pos} (hN : X.N.Nodup) (hi : X.N[i]? = some x) (hx : Loc X.env.scope x) (he : DPE X L e m) (hs : swapsWith e (some (.Name x pos')) pos.line X.env = pure false) (hf : X.fn x = true ∨ X.env.scope.names.lookup x = some .local) :
    DPS X L (.Assign [.Name x pos'] e pos) (dAsg m (dgName i)) := by
  refine ⟨mo_asg he.mo mog_name, ps_imp (ps_set hN hi hx he.run hs hf) fun Dn σ H ⟨G, O, ρ, g, rs, q⟩ => ?_⟩
  exact upE he.mo g rs q fun d v O' G' H' z s r => z _ G' H' s ((rs.step s).set r)
/-- y = [..] on one row -/
theorem d_setLc {i : Nat} {y : Str} {py spos : Pos} {elt tg iter : Expr} {ifs : List Expr} {scope : Scope} {own : List (Str × Nat)} {is : List Nat} {mi : DI} {g : DG} {tt : DT} {te : DE} (hc : X.calm = true) (hN : X.N.Nodup) (hy : X.N[i]? = some y) (hyl : X.env.scope.names.lookup y = some .local)
    (hsw : swapsWith (.ListComp elt [⟨tg, iter, ifs, 0⟩] scope pos) (some (.Name y py)) spos.line X.env = pure true) (hi : DPI X L tg iter mi) (ok : BlkOk X.N X.env.scope scope own)
    (hg : ∀ (s : Shared) (H : Hp) (C : Addr) (cl : List (Str × Addr)) (fp : List Addr), DPG (X.blk s H scope (compEnvC scope cl C X.env) fp) L.blk tg is g)
    (ht : ∀ (s : Shared) (H : Hp) (C : Addr) (cl : List (Str × Addr)) (fp : List Addr), DPTs (X.blk s H scope (compEnvC scope cl C X.env) fp) L.blk ifs tt)
    (he : ∀ (s : Shared) (H : Hp) (C : Addr) (cl : List (Str × Addr)) (fp : List Addr), DPE (X.blk s H scope (compEnvC scope cl C X.env) fp) L.blk elt te)
    (hv : is.all (fun i => (own.map (·.2)).contains i) = true) (hs : ∀ x, foldedSetIterable iter X.env x = pure x) :
    DPS X L (.Assign [.Name y py] (.ListComp elt [⟨tg, iter, ifs, 0⟩] scope pos) spos) (dAsg (dLc mi g tt te (own.map (·.2))) (dgName i)) := by
  have mg := (hg X.s_0 X.H_0 0 [] []).mo
  have mt := (ht X.s_0 X.H_0 0 [] []).mo
  have me := (he X.s_0 X.H_0 0 [] []).mo
  have ml : Mo (dLc mi g tt te (own.map (·.2))) := mo_lc hi.mo mg mt me
  refine ⟨mo_asg ml mog_name, ps_imp (ps_setLc (g := upG X.K L.B is g) (tt := upT X.K L.B (fun _ _ _ _ => False) tt) (te := up X.K L.B (fun _ _ _ _ => False) te) hc hN hy hyl hsw hi.run ok (fun s H C cl fp => (hg s H C cl fp).run) (fun s H C cl fp => (ht s H C cl fp).run) (fun s H C cl fp => (he s H C cl fp).run) hs) fun Dn σ H ⟨G, O, ρ, gd, rs, q⟩ => ?_⟩
  have q2 : up X.K L.B L.W (dLc mi g tt te (own.map (·.2))) σ H (fun x H1 => gName i x σ H1 Dn.nx) := upE ml gd rs q fun d v O' G' H' z s r => z _ G' H' s ((rs.step s).set r)
  obtain ⟨G2, O2, ρ2, gd2, rs2, q2⟩ := q2
  refine ⟨G2, O2, ρ2, gd2, rs2, hi.mo ρ2 _ _ _ _ _ (fun x O1 z J G1 H1 s1 it Dd nD => ?_) (fun _ _ x => x) q2⟩
  exact lc_run mg mt me s1 rs2 it z nD (in_of hv) fun acc vacc O1 G1 H1 p st a b c d e f => lc_show acc vacc O1 G1 H1 p st a b c d e f
/-- y = [..] on one row -/
theorem d_setLcO {i : Nat} {y : Str} {py spos : Pos} {elt tg iter : Expr} {ifs : List Expr} {scope : Scope} {own : List (Str × Nat)} {is : List Nat} {mi : DI} {g : DG} {tt : DT} {te : DE} (hc : X.calm = true) (hN : X.N.Nodup) (hy : X.N[i]? = some y) (hyl : X.env.scope.names.lookup y = some .local)
    (hsw : swapsWith (.ListComp elt [⟨tg, iter, ifs, 0⟩] scope pos) (some (.Name y py)) spos.line X.env = pure true) (hi : DPI X L tg iter mi) (ok : BlkOk X.N X.env.scope scope own)
    (hg : ∀ (s : Shared) (H : Hp) (C : Addr) (cl : List (Str × Addr)) (fp : List Addr), DPG (X.blk s H scope (compEnvC scope cl C X.env) fp) L.blk tg is g)
    (ht : ∀ (s : Shared) (H : Hp) (C : Addr) (cl : List (Str × Addr)) (fp : List Addr), DPTs (X.blk s H scope (compEnvC scope cl C X.env) fp) L.blk ifs tt)
    (he : ∀ (s : Shared) (H : Hp) (C : Addr) (cl : List (Str × Addr)) (fp : List Addr), DPE (X.blk s H scope (compEnvC scope cl C X.env) fp) L.blk elt te)
    (hv : is.all (fun i => (own.map (·.2)).contains i) = true) (hs : ∀ x, foldedSetIterable iter X.env x = pure x) :
    DPS X L (.Assign [.Name y py] (.ListComp elt [⟨tg, iter, ifs, 0⟩] scope pos) spos) (dAsg (dLcO mi g tt te (own.map (·.2))) (dgName i)) := by
  have mg := (hg X.s_0 X.H_0 0 [] []).mo
  have mt := (ht X.s_0 X.H_0 0 [] []).mo
  have me := (he X.s_0 X.H_0 0 [] []).mo
  have ml : Mo (dLcO mi g tt te (own.map (·.2))) := mo_lcO hi.mo mg mt me
  refine ⟨mo_asg ml mog_name, ps_imp (ps_setLc (g := upG X.K L.B is g) (tt := upT X.K L.B (fun _ _ _ _ => False) tt) (te := up X.K L.B (fun _ _ _ _ => False) te) hc hN hy hyl hsw hi.run ok (fun s H C cl fp => (hg s H C cl fp).run) (fun s H C cl fp => (ht s H C cl fp).run) (fun s H C cl fp => (he s H C cl fp).run) hs) fun Dn σ H ⟨G, O, ρ, gd, rs, q⟩ => ?_⟩
  have q2 : up X.K L.B L.W (dLcO mi g tt te (own.map (·.2))) σ H (fun x H1 => gName i x σ H1 Dn.nx) := upE ml gd rs q fun d v O' G' H' z s r => z _ G' H' s ((rs.step s).set r)
  obtain ⟨G2, O2, ρ2, gd2, rs2, q2⟩ := q2
  refine ⟨G2, O2, ρ2, gd2, rs2, hi.mo ρ2 _ _ _ _ _ (fun x O1 z J G1 H1 s1 it Dd nD => ?_) (fun _ _ x => x) q2⟩
  exact lc_run mg mt me s1 rs2 it z nD (in_of hv) fun acc vacc O1 G1 H1 p st a b c d e f => lc_own acc vacc O1 G1 H1 p st a b c d e f
/-! ### for -/
def forW (I : Ow → Prop) (g : DG) (b : DS) (A : DEnds) : List D → Slots → Ow → Prop
  | [], ρ, O => I O ∧ A.nx ρ O
  | d :: ds, ρ, O => I O ∧ g d ρ fun ρ' => b { A with nx := forW I g b A ds, ct := forW I g b A ds, bk := A.nx } ρ' O
theorem forW_mo {I : Ow → Prop} {g : DG} {b : DS} (hg : MoG g) (hb : MoS b) {A A' : DEnds} (l : DEnds.Le A A') : ∀ {ds : List D} {ρ : Slots} {O : Ow}, forW I g b A ds ρ O → forW I g b A' ds ρ O
  | [], _, _, z => ⟨z.1, l.nx _ _ z.2⟩
  | d :: ds, _, _, z => ⟨z.1, hg _ _ _ _ (fun ρ' y => hb { A with nx := forW I g b A ds, ct := forW I g b A ds, bk := A.nx } { A' with nx := forW I g b A' ds, ct := forW I g b A' ds, bk := A'.nx } _ _ ⟨fun r _ w => forW_mo hg hb l w, l.rt, l.nx, fun r _ w => forW_mo hg hb l w, l.ex⟩ y) z.2⟩
abbrev dFor (mi : DI) (g : DG) (b : DS) : DS := fun A ρ O => mi ρ O (fun x O1 => forW x.1 g b A x.2 ρ O1) (fun x O1 => A.ex x ρ O1)
theorem d_for {iter : Expr} {body : List Stmt} {mi : DI} {g : DG} {is : List Nat} (hp : PassesOwn (model X.prog X.w) X.A X.env X.xe) (hc : X.calm = true) (hi : DPI X L tg iter mi) (hg : DPG X L tg is g) (hb : DPSs X L body ms)
    (hs : ∀ x, foldedSetIterable iter X.env x = pure x) : DPS X L (.For tg iter body [] pos) (dFor mi g ms) := by
  refine ⟨fun A A' ρ O l z => hi.mo _ _ _ _ _ _ (fun d _ y => forW_mo hg.mo hb.mo l y) (fun x _ y => l.ex _ _ _ y) z, ps_imp (ps_for hp hc hi.run hg.run hb.run hs) fun Dn σ H ⟨G, O, ρ, gd, rs, q⟩ => ?_⟩
  refine ⟨G, O, ρ, gd, rs, hi.mo ρ _ _ _ _ _ (fun x O1 z J G1 H1 s1 it => ?_) (fun x _ z => kx_of rs z) q⟩
  obtain ⟨I, ds⟩ := x
  refine ⟨fun i m σ2 H2 => ∃ G2 O2 ρ2, m = ds.length - i ∧ i ≤ ds.length ∧ Step X.K L.B O1 G1 H1 O2 G2 H2 ∧ RpS X.K G2 σ2 ρ2 ∧ forW I g ms (dn X.K L O2 G2 H2 Dn) (ds.drop i) ρ2 O2,
    ⟨ds.length, G1, O1, ρ, by simp, Nat.zero_le _, Step.refl s1.good, rs.step s1, ?_⟩, ?_⟩
  · rw [List.drop_zero]
    exact forW_mo hg.mo hb.mo (dn_step s1) z
  · rintro i m σ2 H2 ⟨G2, O2, ρ2, rfl, hi2, st, rs2, hf⟩
    rcases Nat.lt_or_ge i ds.length with hlt | hge
    · have ei : ds[i]? = some ds[i] := List.getElem?_eq_getElem hlt
      have ed : ds.drop i = ds[i] :: ds.drop (i + 1) := List.drop_eq_getElem_cons hlt
      rw [ed] at hf
      obtain ⟨hI, hf⟩ := hf
      obtain ⟨go, yl⟩ := (it i O2 G2 H2 st.good st.grow hI).1 _ ei
      refine .inr ⟨go, fun σ3 H3 => ∃ G3 O3 ρ3, Step X.K L.B O1 G1 H1 O3 G3 H3 ∧ RpS X.K G3 σ3 ρ3 ∧ forW I g ms (dn X.K L O3 G3 H3 Dn) (ds.drop (i + 1)) ρ3 O3, fun σ3 H3 ⟨G3, O3, ρ3, a, b, c⟩ => ⟨ds.length - (i + 1), by omega, G3, O3, ρ3, rfl, by omega, a, b, c⟩, fun x H3 y => ?_⟩
      obtain ⟨G3, s3, rx⟩ := yl x H3 y
      refine ⟨G3, O2, ρ2, ds[i], s3.good, rs2.step s3, rx, hg.mo _ _ _ _ (fun ρ' z2 σ' rs' _ => ?_) hf⟩
      refine ⟨G3, O2, ρ', s3.good, rs', hb.mo { dn X.K L O2 G2 H2 Dn with nx := forW I g ms (dn X.K L O2 G2 H2 Dn) (ds.drop (i + 1)), ct := forW I g ms (dn X.K L O2 G2 H2 Dn) (ds.drop (i + 1)), bk := (dn X.K L O2 G2 H2 Dn).nx } _ _ _ ⟨fun r O4 w σ4 G4 H4 s4 rs4 => ?_, fun r O4 w v G4 H4 s4 r4 => ?_, fun r O4 w σ4 G4 H4 s4 rs4 => ?_, fun r O4 w σ4 G4 H4 s4 rs4 => ?_, fun x r O4 w σ4 d fs G4 H4 s4 rs4 a b => ?_⟩ z2⟩
      · exact ⟨G4, O4, r, st.trans (s3.trans s4), rs4, forW_mo hg.mo hb.mo (dn_step (s3.trans s4)) w⟩
      · exact w v G4 H4 (s3.trans s4) r4
      · exact w σ4 G4 H4 (s3.trans s4) rs4
      · exact ⟨G4, O4, r, st.trans (s3.trans s4), rs4, forW_mo hg.mo hb.mo (dn_step (s3.trans s4)) w⟩
      · exact w σ4 d fs G4 H4 (s3.trans s4) rs4 a b
    · rw [List.drop_eq_nil_of_le hge] at hf
      obtain ⟨hI, hf⟩ := hf
      refine .inl ⟨(it i O2 G2 H2 st.good st.grow hI).2 (show i = ds.length by omega), ?_⟩
      exact hf _ _ _ (Step.refl st.good) rs2
end
/-! ### defs -/
def startD (N : List Str) (ds : List D) : Slots := ds.map .sh ++ List.replicate (N.length - ds.length) .un
theorem start_rp {K : PySem.W.Frag} {G : Hp} {N : List Str} {vs : List V} {ds : List D} (r : RpL K G vs ds) : RpS K G (L2.start N vs) (startD N ds) := by
  have hl := r.length
  unfold L2.start startD
  refine ⟨by simp [hl], fun i d e => ?_⟩
  by_cases hi : i < ds.length
  · rw [List.getElem?_append_left (by simpa using hi), List.getElem?_map] at e
    cases q : ds[i]? with
    | none => rw [q] at e; cases e
    | some x =>
      rw [q] at e
      cases e
      obtain ⟨v, ev, rv⟩ := r.get q
      exact ⟨v, by rw [List.getElem?_append_left (by simpa [hl] using hi), List.getElem?_map, ev]; rfl, rv⟩
  · rw [List.getElem?_append_right (by simpa using hi)] at e
    rw [List.getElem?_replicate] at e
    split at e <;> cases e
/-- the ends of a def's body -/
abbrev endsD (Q : QD) (E : QX) : DEnds := { nx := fun _ O => Q .non O, rt := Q, ex := fun x _ O => E x O }
section
variable {P : Program} {w : World} {K : PySem.W.Frag} {mg : Str → Option Value} {base : Heap}
/-- a def that raises nothing -/
theorem fn_pure {x qual : Str} {st : Stmt} {f : Addr} {fd : FuncData} {N ps : List Str} {k : Nat} {sp : DSp} {ms : DS} (Fn : Fun K x qual st f fd) (S : FnScope N ps (defScope st)) (len : ∀ ds O Q E, sp ds O Q E → ds.length = ps.length)
    (hb : ∀ (cdv : Value) (A : Around) (outer : List Env) (s : Shared) (H : Hp) (E : XK), Room k (A.deeper (envOfC qual (defScope st) s.heap.objs.size f cdv)) →
      DPSs (cxOf CX0 P w K mg base N qual (defScope st) f cdv A outer s H E).nox ⟨bo0, fun _ _ _ _ => False⟩ (defBody st) ms)
    (h : ∀ ds O Q E, sp ds O Q E → ms (endsD Q E) (startD N ds) O) (noex : ∀ ds O Q E, sp ds O Q E → sp ds O Q fun _ _ => False) : FnOk P w K mg base CX0 (k + 1) f fd ps (spD K sp) := by
  refine Fn.ok S (fun vs H Q E ⟨G, O, ds, g, r, Q0, E0, h0, _⟩ => ?_) (fun cdv A outer s H vs Q E hr ⟨G, O, ds, g, r, Q0, E0, h0, hq, hx⟩ => ?_)
  · rw [r.length]; exact len _ _ _ _ h0
  · have b := hb cdv A outer s H E hr
    refine ⟨_, b.run, G, O, startD N ds, g, start_rp r, b.mo (endsD Q0 fun _ _ => False) _ _ _ ⟨fun ρ O1 z σ' G' H' s _ => hq _ _ z _ G' H' s .non, fun d O1 z v G' H' s rv => hq _ _ z v G' H' s rv, fun _ _ z => z.elim, fun _ _ z => z.elim, fun x ρ _ z => z.elim⟩ (h ds O Q0 (fun _ _ => False) (noex _ _ _ _ h0))⟩
/-- a def that takes the box first and raises nothing -/
theorem fn_box {x qual : Str} {st : Stmt} {f : Addr} {fd : FuncData} {N ps : List Str} {k : Nat} {sp : DSp} {ms : Addr → DS} (Fn : Fun K x qual st f fd) (S : FnScope N ps (defScope st)) (len : ∀ ds O Q E, sp ds O Q E → ds.length + 1 = ps.length)
    (hb : ∀ (cdv : Value) (A : Around) (outer : List Env) (s : Shared) (H : Hp) (E : XK) (b l : Addr) (T : List (Addr × Str)), Room k (A.deeper (envOfC qual (defScope st) s.heap.objs.size f cdv)) →
      DPSs (cxOf CX0 P w K mg base N qual (defScope st) f cdv A outer s H E).nox ⟨boB b l T, fun _ _ _ _ => False⟩ (defBody st) (ms b))
    (h : ∀ b ds O Q E, sp ds O Q E → ms b (endsD Q E) (startD N (.opq (.ref b) :: ds)) O) (noex : ∀ ds O Q E, sp ds O Q E → sp ds O Q fun _ _ => False) : FnOk P w K mg base CX0 (k + 1) f fd ps (spB K sp) := by
  refine Fn.ok S (fun vs H Q E ⟨b, l, T, ws, G, O, ds, ev, g, r, Q0, E0, h0, _⟩ => ?_) (fun cdv A outer s H vs Q E hr ⟨b, l, T, ws, G, O, ds, ev, g, r, Q0, E0, h0, hq, hx⟩ => ?_)
  · rw [ev, List.length_cons, r.length]; exact len _ _ _ _ h0
  · subst ev
    have bb := hb cdv A outer s H E b l T hr
    refine ⟨_, bb.run, G, O, startD N (.opq (.ref b) :: ds), g, start_rp (.cons (.opq _) r), bb.mo (endsD Q0 fun _ _ => False) _ _ _ ⟨fun ρ O1 z σ' G' H' s _ => hq _ _ z _ G' H' s .non, fun d O1 z v G' H' s rv => hq _ _ z v G' H' s rv, fun _ _ z => z.elim, fun _ _ z => z.elim, fun x ρ _ z => z.elim⟩ (h b ds O Q0 (fun _ _ => False) (noex _ _ _ _ h0))⟩
end
end EV
set_option Elab.async false
set_option linter.all false
set_option maxRecDepth 100000
set_option maxHeartbeats 4000000
namespace EV
open PySem PySem.Spec PyProof.Rows L2
abbrev P2 := D → D → (D → Prop) → Prop
/-! ### plain data -/
mutual
def toP : D → Option PyData
  | .non => some .none
  | .bl b => some (.bool b)
  | .int i => some (.int i)
  | .str x => some (.str x)
  | .lst xs => (toPs xs).map .list
  | .tup xs => (toPs xs).map .tuple
  | _ => none
def toPs : List D → Option (List PyData)
  | [] => some []
  | x :: xs => match toP x, toPs xs with
    | some y, some ys => some (y :: ys)
    | _, _ => none
end
section
variable {K : PySem.W.Frag} {G H : Hp}
mutual
theorem Rp.dp (s : Sub G H) : ∀ {d : D} {v : V} {q : PyData}, Rp K G v d → toP d = some q → Dp K H v q
  | .non, _, _, .non, e => by cases e; exact .non
  | .bl _, _, _, .bl b, e => by cases e; exact .bl b
  | .int _, _, _, .int i, e => by cases e; exact .int i
  | .str _, _, _, .str x, e => by cases e; exact .str x
  | .opq _, _, _, .opq v, e => by simp [toP] at e
  | .lst ds, _, _, .lst h r, e => by
    simp only [toP, Option.map_eq_some_iff] at e
    obtain ⟨qs, e1, rfl⟩ := e
    exact .lst (s.lstL h) (RpL.dp s r e1)
  | .tup ds, _, _, .tup h r, e => by
    simp only [toP, Option.map_eq_some_iff] at e
    obtain ⟨qs, e1, rfl⟩ := e
    exact .tup (s.sqT h) (RpL.dp s r e1)
  | .dic _, _, _, .dic h r, e => by simp [toP] at e
  | .ins _ _, _, _, .ins h r, e => by simp [toP] at e
  | .exc _ _, _, _, .exc h _ _ r, e => by simp [toP] at e
theorem RpL.dp (s : Sub G H) : ∀ {ds : List D} {vs : List V} {qs : List PyData}, RpL K G vs ds → toPs ds = some qs → DpAll K H vs qs
  | [], _, _, .nil, e => by cases e; exact .nil
  | d :: ds, _, _, .cons h r, e => by
    simp only [toPs] at e
    split at e
    · rename_i y ys e1 e2
      cases e
      exact .cons (Rp.dp s h e1) (RpL.dp s r e2)
    · cases e
end
end
/-! ### operators of data -/
abbrev addD : P2
  | .int i, .int j, Q => Q (.int (i + j))
  | .str x, .str y, Q => x.length + y.length ≤ sizeLine ∧ Q (.str (x ++ y))
  | .lst xs, .lst ys, Q => xs.length + ys.length ≤ sizeLine ∧ Q (.lst (xs ++ ys))
  | .tup xs, .tup ys, Q => xs ≠ [] ∧ xs.length + ys.length ≤ sizeLine ∧ Q (.tup (xs ++ ys))
  | _, _, _ => False
abbrev iI (C : Int → Int → Prop) (g : Int → Int → D) : P2
  | .int i, .int j, Q => C i j ∧ Q (g i j)
  | _, _, _ => False
abbrev subD : P2 := iI (fun _ _ => True) fun i j => .int (i - j)
abbrev modD : P2 := iI (fun _ j => 0 < j) fun i j => .int (i % j)
abbrev fdivD : P2 := iI CDiv fun i j => .int (i / j)
abbrev mulD : P2
  | .int i, .int j, Q => CMul i j ∧ Q (.int (i * j))
  | .str x, .int n, Q => MulOk x n ∧ Q (.str (Txt.mul x n))
  | .lst xs, .int k, Q => -(2 ^ 63) ≤ k ∧ k < 2 ^ 63 ∧ xs.length * k.toNat ≤ sizeLine ∧ Q (.lst (List.replicate k.toNat xs).flatten)
  | _, _, _ => False
abbrev ordD (gi : Int → Int → Bool) (gs : Str → Str → Bool) : P2
  | .int i, .int j, Q => Q (.bl (gi i j))
  | .str x, .str y, Q => Q (.bl (gs x y))
  | _, _, _ => False
abbrev ltD : P2 := ordD (fun i j => decide (i < j)) fun x y => decide (x.cps.toList < y.cps.toList)
abbrev leD : P2 := ordD (fun i j => decide (i ≤ j)) fun x y => !decide (y.cps.toList < x.cps.toList)
abbrev gtD : P2 := ordD (fun i j => decide (j < i)) fun x y => decide (y.cps.toList < x.cps.toList)
abbrev geD : P2 := ordD (fun i j => decide (j ≤ i)) fun x y => !decide (x.cps.toList < y.cps.toList)
/-- ==, told through f -/
def eqD (f : Bool → Bool) : P2
  | .int i, .int j, Q => Q (.bl (f (decide (i = j))))
  | .str x, .str y, Q => Q (.bl (f (decide (x = y))))
  | .bl x, .bl y, Q => Q (.bl (f (decide (x = y))))
  | a, b, Q => match toP a, toP b with
    | some x, some y => SeqAt.shaped x = true ∧ SeqAt.shaped y = true ∧ Q (.bl (f (PyData.eqv x y)))
    | _, _ => False
abbrev isNonD : D → Bool
  | .non => true
  | _ => false
/-- is None, is not None -/
abbrev isD (f : Bool → Bool) : P2
  | .opq _, _, _ => False
  | a, .non, Q => Q (.bl (f (isNonD a)))
  | _, _, _ => False
/-- in, not in -/
abbrev inD (f : Bool → Bool) : P2
  | .str ⟨⟨[c]⟩⟩, .str z, Q => Q (.bl (f (decide (c ∈ z.cps.toList))))
  | a, .lst xs, Q => match toP a, toPs xs with
    | some x, some ys => SeqAt.shaped x = true ∧ SeqAt.shaped (.list ys) = true ∧ Q (.bl (f (ys.any fun z => PyData.eqv z x)))
    | _, _ => False
  | _, _, _ => False
theorem sub_i {X : Cx} {B : Bo} {f : Value → Value → Sem Value} {C : Int → Int → Prop} {g : Int → Int → D} {gv : Int → Int → V} (h : OpR X f (rI C gv)) (hg : ∀ i j K G, Rp K G (gv i j) (g i j)) : OpD X B f (pu (iI C g)) := by
  refine ⟨fun O x y Q Q' q z => ?_, _, h, fun O G H x y a b Q gd r1 r2 q => ?_⟩
  · dsimp only [pu] at z ⊢; unfold iI at z ⊢
    split at z
    · exact ⟨z.1, q _ z.2⟩
    · exact z
  · dsimp only [pu] at q; unfold iI at q
    split at q
    · cases r1
      cases r2
      exact ⟨_, _, rfl, rfl, q.1, q.2 _ _ _ (Step.refl gd) (hg _ _ _ _)⟩
    · exact q.elim
section
variable {X : Cx} {B : Bo}
theorem od_sub : OpD X B (binaryOp .Sub) (pu subD) := by
  have h : OpR X (binaryOp .Sub) (rI (fun _ _ => True) fun i j => .int (i - j)) := fun pins s σ H x y v u Q I r1 r2 ⟨i, j, e1, e2, _, q⟩ => op_sub pins s σ H x y v u Q I r1 r2 ⟨i, j, e1, e2, q⟩
  exact sub_i h fun i j K G => .int _
theorem od_mod : OpD X B (binaryOp .Mod) (pu modD) := sub_i op_mod fun i j K G => .int _
theorem od_fdiv : OpD X B (binaryOp .FloorDiv) (pu fdivD) := sub_i op_fdiv fun i j K G => .int _
theorem od_add : OpD X B (binaryOp .Add) (pu addD) := by
  refine ⟨fun O x y Q Q' q z => ?_, _, op_add.or (op_add_str.or (op_cat.or op_catT)), fun O G H x y a b Q gd r1 r2 q => ?_⟩
  · dsimp only [pu] at z ⊢; unfold addD at z ⊢
    split at z
    · exact q _ z
    · exact ⟨z.1, q _ z.2⟩
    · exact ⟨z.1, q _ z.2⟩
    · exact ⟨z.1, z.2.1, q _ z.2.2⟩
    · exact z
  · dsimp only [pu] at q; unfold addD at q
    split at q
    · cases r1
      cases r2
      exact .inl ⟨_, _, rfl, rfl, q _ _ _ (Step.refl gd) (.int _)⟩
    · cases r1
      cases r2
      exact .inr (.inl ⟨_, _, rfl, rfl, q.1, q.2 _ _ _ (Step.refl gd) (.str _)⟩)
    · cases r1 with
      | lst s1 l1 =>
        cases r2 with
        | lst s2 l2 => exact .inr (.inr (.inl ⟨_, _, _, _, rfl, rfl, gd.sub _ _ s1, gd.sub _ _ s2, by rw [l1.length, l2.length]; exact q.1, fun p np => q.2 _ _ _ (Step.new gd np) (new_lst gd np (l1.append l2))⟩))
    · rename_i xs ys
      cases r1 with
      | tup s1 l1 =>
        cases r2 with
        | tup s2 l2 =>
          refine .inr (.inr (.inr ⟨_, _, _, _, rfl, rfl, gd.sub.sqT s1, gd.sub.sqT s2, fun z => ?_, by rw [l1.length, l2.length]; exact q.2.1, fun z => ?_, fun z p np => q.2.2 _ _ _ (Step.new gd np) (new_tup gd np (l1.append l2))⟩))
          · subst z
            cases l1
            exact q.1 rfl
          · subst z
            cases l2
            rw [List.append_nil] at q
            exact q.2.2 _ _ _ (Step.refl gd) (.tup s1 l1)
    · exact q.elim
theorem RpL.rep {K : PySem.W.Frag} {G : Hp} {vs : List V} {ds : List D} (r : RpL K G vs ds) : ∀ n : Nat, RpL K G (List.replicate n vs).flatten (List.replicate n ds).flatten
  | 0 => .nil
  | n + 1 => by
    rw [List.replicate_succ, List.replicate_succ, List.flatten_cons, List.flatten_cons]
    exact r.append (RpL.rep r n)
theorem op_mulS : OpR X (binaryOp .Mult) (fun x y H Q => ∃ z n, x = .str z ∧ y = .int n ∧ MulOk z n ∧ Q (.str (Txt.mul z n)) H) := by
  intro pins s σ H x y v u Q I rx ry h
  obtain ⟨z, n, rfl, rfl, hk, q⟩ := h
  obtain ⟨t, rfl⟩ := rx
  obtain ⟨t', rfl⟩ := ry
  exact SB.mul hk fun t2 k => ⟨.str _, H, I.tok _, ⟨_, rfl⟩, q⟩
theorem od_mul : OpD X B (binaryOp .Mult) (pu mulD) := by
  refine ⟨fun O x y Q Q' q z => ?_, _, op_mul.or (op_mulS.or op_rep), fun O G H x y a b Q gd r1 r2 q => ?_⟩
  · dsimp only [pu] at z ⊢; unfold mulD at z ⊢
    split at z
    · exact ⟨z.1, q _ z.2⟩
    · exact ⟨z.1, q _ z.2⟩
    · exact ⟨z.1, z.2.1, z.2.2.1, q _ z.2.2.2⟩
    · exact z
  · dsimp only [pu] at q; unfold mulD at q
    split at q
    · cases r1
      cases r2
      exact .inl ⟨_, _, rfl, rfl, q.1, q.2 _ _ _ (Step.refl gd) (.int _)⟩
    · cases r1
      cases r2
      exact .inr (.inl ⟨_, _, rfl, rfl, q.1, q.2 _ _ _ (Step.refl gd) (.str _)⟩)
    · cases r1 with
      | lst s1 l1 =>
        cases r2
        exact .inr (.inr ⟨_, _, _, rfl, rfl, gd.sub _ _ s1, q.1, q.2.1, by rw [l1.length]; exact q.2.2.1, fun p np => q.2.2.2 _ _ _ (Step.new gd np) (new_lst gd np (l1.rep _))⟩)
    · exact q.elim
theorem od_ord {op : CmpOp} {gi : Int → Int → Bool} {gs : Str → Str → Bool} (h1 : OpR X (compareOp op) (rI0 fun i j => .bl (gi i j))) (h2 : OpR X (compareOp op) (fun x y H Q => ∃ i j, x = .str i ∧ y = .str j ∧ Q (.bl (gs i j)) H)) : OpD X B (compareOp op) (pu (ordD gi gs)) := by
  refine ⟨fun O x y Q Q' q z => ?_, _, h1.or h2, fun O G H x y a b Q gd r1 r2 q => ?_⟩
  · dsimp only [pu] at z ⊢; unfold ordD at z ⊢
    split at z
    · exact q _ z
    · exact q _ z
    · exact z
  · dsimp only [pu] at q; unfold ordD at q
    split at q
    · cases r1
      cases r2
      exact .inl ⟨_, _, rfl, rfl, q _ _ _ (Step.refl gd) (.bl _)⟩
    · cases r1
      cases r2
      exact .inr ⟨_, _, rfl, rfl, q _ _ _ (Step.refl gd) (.bl _)⟩
    · exact q.elim
theorem od_lt : OpD X B (compareOp .Lt) (pu ltD) := od_ord op_lt op_lt_str
theorem od_le : OpD X B (compareOp .LtE) (pu leD) := od_ord op_le op_le_str
theorem od_gt : OpD X B (compareOp .Gt) (pu gtD) := od_ord op_gt op_gt_str
theorem od_ge : OpD X B (compareOp .GtE) (pu geD) := od_ord op_ge op_ge_str
theorem od_eqf {op : CmpOp} {f : Bool → Bool} (h1 : OpR X (compareOp op) (fun x y H Q => scal x y = true ∧ Q (.bl (f (decide (x = y)))) H))
    (h2 : OpR X (compareOp op) (fun x y H Q => ∃ d e, Dp X.K H x d ∧ Dp X.K H y e ∧ SeqAt.shaped d = true ∧ SeqAt.shaped e = true ∧ Q (.bl (f (PyData.eqv d e))) H)) : OpD X B (compareOp op) (pu (eqD f)) := by
  refine ⟨fun O x y Q Q' q z => ?_, _, h1.or h2, fun O G H x y a b Q gd r1 r2 q => ?_⟩
  · dsimp only [pu] at z ⊢; unfold eqD at z ⊢
    split at z
    · exact q _ z
    · exact q _ z
    · exact q _ z
    · split at z
      · exact ⟨z.1, z.2.1, q _ z.2.2⟩
      · exact z
  · dsimp only [pu] at q; unfold eqD at q
    split at q
    · cases r1
      cases r2
      rename_i i j
      have : decide (V.int i = V.int j) = decide (i = j) := by simp
      exact .inl ⟨rfl, by rw [this]; exact q _ _ _ (Step.refl gd) (.bl _)⟩
    · cases r1
      cases r2
      rename_i i j
      have : decide (V.str i = V.str j) = decide (i = j) := by simp
      exact .inl ⟨rfl, by rw [this]; exact q _ _ _ (Step.refl gd) (.bl _)⟩
    · cases r1
      cases r2
      rename_i i j
      have : decide (V.bl i = V.bl j) = decide (i = j) := by simp
      exact .inl ⟨rfl, by rw [this]; exact q _ _ _ (Step.refl gd) (.bl _)⟩
    · split at q
      · rename_i p1 p2 e1 e2
        exact .inr ⟨p1, p2, r1.dp gd.sub e1, r2.dp gd.sub e2, q.1, q.2.1, q.2.2 _ _ _ (Step.refl gd) (.bl _)⟩
      · exact q.elim
theorem od_eq (hu : X.A.units + 64 < cLine) : OpD X B (compareOp .Eq) (pu (eqD id)) := od_eqf op_eq (op_eqD hu)
theorem od_ne (hu : X.A.units + 64 < cLine) : OpD X B (compareOp .NotEq) (pu (eqD not)) := od_eqf op_ne (op_neD hu)
theorem od_isf {op : CmpOp} {f : Bool → Bool} (h : OpR X (compareOp op) (fun x y H Q => y = .non ∧ Q (.bl (f (decide (x = .non)))) H)) : OpD X B (compareOp op) (pu (isD f)) := by
  refine ⟨fun O x y Q Q' q z => ?_, _, h, fun O G H x y a b Q gd r1 r2 q => ?_⟩
  · dsimp only [pu] at z ⊢; unfold isD at z ⊢
    split at z
    · exact z
    · exact q _ z
    · exact z
  · dsimp only [pu] at q; unfold isD at q
    split at q
    · exact q.elim
    · cases r2
      refine ⟨rfl, ?_⟩
      cases r1 <;> first
        | exact q _ _ _ (Step.refl gd) (.bl _)
        | (rename_i nn _ _; exact (nn _ rfl).elim)
        | (rename_i nn; exact (nn _ rfl).elim)
    · exact q.elim
theorem od_is : OpD X B (compareOp .Is) (pu (isD id)) := od_isf op_isN
theorem od_isnot : OpD X B (compareOp .IsNot) (pu (isD not)) := od_isf op_notN
theorem toPs_list {K : PySem.W.Frag} {G H : Hp} {a : Addr} {ds : List D} {qs : List PyData} (s : Sub G H) (r : Rp K G (.ref a) (.lst ds)) (e : toPs ds = some qs) : Dp K H (.ref a) (.list qs) := r.dp s (by simp [toP, e])
theorem od_inf {op : CmpOp} {f : Bool → Bool} (h1 : OpR X (compareOp op) (fun x y H Q => ∃ (c : Nat) (z : Str), x = .str ⟨#[c]⟩ ∧ y = .str z ∧ Q (.bl (f (decide (c ∈ z.cps.toList)))) H))
    (h2 : OpR X (compareOp op) (fun x y H Q => ∃ d ds, Dp X.K H x d ∧ Dp X.K H y (.list ds) ∧ SeqAt.shaped d = true ∧ SeqAt.shaped (.list ds) = true ∧ Q (.bl (f (ds.any fun z => PyData.eqv z d))) H)) : OpD X B (compareOp op) (pu (inD f)) := by
  refine ⟨fun O x y Q Q' q z => ?_, _, h1.or h2, fun O G H x y a b Q gd r1 r2 q => ?_⟩
  · dsimp only [pu] at z ⊢; unfold inD at z ⊢
    split at z
    · exact q _ z
    · split at z
      · exact ⟨z.1, z.2.1, q _ z.2.2⟩
      · exact z
    · exact z
  · dsimp only [pu] at q; unfold inD at q
    split at q
    · cases r1
      cases r2
      exact .inl ⟨_, _, rfl, rfl, q _ _ _ (Step.refl gd) (.bl _)⟩
    · split at q
      · rename_i p1 p2 e1 e2
        cases r2 with
        | lst s2 l2 => exact .inr ⟨p1, p2, r1.dp gd.sub e1, toPs_list gd.sub (.lst s2 l2) e2, q.1, q.2.1, q.2.2 _ _ _ (Step.refl gd) (.bl _)⟩
      · exact q.elim
    · exact q.elim
theorem od_in (hu : X.A.units + 65 < cLine) : OpD X B (compareOp .In) (pu (inD id)) := od_inf op_in_sign (op_inD hu)
theorem od_notin (hu : X.A.units + 65 < cLine) : OpD X B (compareOp .NotIn) (pu (inD not)) := od_inf op_notIn_sign (op_notInD hu)
end
end EV
set_option Elab.async false
set_option linter.all false
set_option maxRecDepth 100000
set_option maxHeartbeats 4000000
namespace EV
open PySem PySem.Spec PyProof.Rows L2
abbrev PC := List D → (D → Prop) → Prop
/-! ### built-in functions of data -/
abbrev lenD : PC
  | [.str y], Q => y.length ≤ sizeLine ∧ Q (.int y.length)
  | [.lst xs], Q => Q (.int xs.length)
  | [.tup xs], Q => Q (.int xs.length)
  | _, _ => False
abbrev toIntD : PC
  | [.int i], Q => Q (.int i)
  | [.bl k], Q => Q (.int (if k then 1 else 0))
  | _, _ => False
def toBs : List D → Option (List Bool)
  | [] => some []
  | .bl b :: r => (toBs r).map (b :: ·)
  | _ => none
def allD : PC
  | [.lst xs], Q => match toBs xs with
    | some bs => Q (.bl (bs.all id))
    | none => False
  | _, _ => False
def anyD : PC
  | [.lst xs], Q => match toBs xs with
    | some bs => Q (.bl (bs.any id))
    | none => False
  | _, _ => False
/-- the type's name of plain data -/
def tyD : D → Option String
  | .non => some "NoneType"
  | .bl _ => some "bool"
  | .int _ => some "int"
  | .str _ => some "str"
  | .lst _ => some "list"
  | .tup _ => some "tuple"
  | .dic _ => some "dict"
  | _ => none
def kn (n : String) : Bool := n == "str" || n == "int" || n == "bool" || n == "list" || n == "tuple" || n == "dict"
def isT (t n : String) : Bool := t == n || (t == "bool" && n == "int")
def isiB (d : D) (n : String) : Bool := match tyD d with
  | some t => isT t n
  | none => false
def isAny (d : D) : List D → Option Bool
  | [] => some false
  | .opq (.ty n) :: r => if kn n = true then (isAny d r).map (isiB d n || ·) else none
  | _ => none
def isiD : PC
  | [x, .opq (.ty n)], Q => kn n = true ∧ (tyD x).isSome = true ∧ Q (.bl (isiB x n))
  | _, _ => False
theorem toBs_vs {K : PySem.W.Frag} {G : Hp} : ∀ {ds : List D} {vs : List V} {bs : List Bool}, RpL K G vs ds → toBs ds = some bs → vs = bs.map V.bl
  | [], _, _, .nil, e => by cases e; rfl
  | .bl b :: r, _, _, .cons (.bl _) t, e => by
    simp only [toBs, Option.map_eq_some_iff] at e
    obtain ⟨bs, e1, rfl⟩ := e
    rw [toBs_vs t e1]; rfl
theorem kn_cases {n : String} (h : kn n = true) : n = "str" ∨ n = "int" ∨ n = "bool" ∨ n = "list" ∨ n = "tuple" ∨ n = "dict" := by
  unfold kn at h
  simp only [Bool.or_eq_true, beq_iff_eq] at h
  rcases h with ((((h | h) | h) | h) | h) | h <;> simp [h]
theorem kit_tab : ∀ t ∈ ["NoneType", "bool", "int", "str", "list", "tuple", "dict"], ∀ n ∈ ["str", "int", "bool", "list", "tuple", "dict"], kitB t n = some (isT t n) := by decide +kernel
theorem kit_isi {K : PySem.W.Frag} {d : D} {t n : String} (ht : tyD d = some t) (hn : kn n = true) : PySem.W.kitOne K (.type t) (.type n) = some (isiB d n) := by
  have e : isiB d n = isT t n := by unfold isiB; rw [ht]
  rw [e]
  refine kit_ty (kit_tab t ?_ n ?_)
  · cases d <;> simp [tyD] at ht <;> subst ht <;> simp
  · rcases kn_cases hn with q | q | q | q | q | q <;> subst q <;> simp
theorem Rp.ty {K : PySem.W.Frag} {G H : Hp} {d : D} {v : V} {t : String} (s : Sub G H) (r : Rp K G v d) (h : tyD d = some t) : TyX K H v (.type t) := by
  cases r with
  | non => cases h; exact .base .non
  | bl b => cases h; exact .base (.bl b)
  | int i => cases h; exact .base (.int i)
  | str x => cases h; exact .base (.str x)
  | opq => simp [tyD] at h
  | lst q _ => cases h; exact .base (.lst (s _ _ q))
  | tup q _ =>
    cases h
    rcases q with (q | ⟨o, q⟩) | ⟨o, its, n, q, c, _⟩
    · exact .base (.tup (s _ _ q))
    · exact .fTuple (s _ _ q)
    · exact .kTuple q c
  | dic q _ => cases h; exact .fDict (s _ _ q)
  | ins => simp [tyD] at h
  | exc => simp [tyD] at h
  | lam => simp [tyD] at h
theorem isAny_run {K : PySem.W.Frag} {G : Hp} {d : D} {t : String} (ht : tyD d = some t) : ∀ {cs : List D} {vs : List V} {b : Bool}, RpL K G vs cs → isAny d cs = some b → ∃ us, Paired ClsV vs us ∧ PySem.W.kitAny K (.type t) us = some b
  | [], _, _, .nil, e => by cases e; exact ⟨[], .nil, rfl⟩
  | .opq (.ty n) :: r, _, _, .cons (.opq _) q, e => by
    unfold isAny at e
    split at e
    · rename_i hn
      simp only [Option.map_eq_some_iff] at e
      obtain ⟨b', e1, rfl⟩ := e
      obtain ⟨us, p, k⟩ := isAny_run ht q e1
      refine ⟨.type n :: us, .cons (.ty n) p, ?_⟩
      refine kitAny_cons (kit_isi ht hn) (fun z => ?_) (fun z => ?_)
      · rw [z, Bool.false_or]; exact k
      · rw [z, Bool.true_or]
    · cases e
section
variable {X : Cx} {L : Pl} {B : Bo} {e o : Expr} {m mo' : DE} {pos p : Pos}
/-- len, also of what a handle holds -/
def lenO : DC := fun O xs Q => lenD (xs.map (lk O)) Q
theorem cd_len : CallD X B (.builtin "len") lenO := by
  refine ⟨fun O x Q Q' q z => ?_, _, call_len, fun O G H vs ds Q g r h => ?_⟩
  · unfold lenO at z ⊢
    generalize x.map (lk O) = x at z ⊢
    unfold lenD at z ⊢
    split at z
    · exact ⟨z.1, q _ z.2⟩
    · exact q _ z
    · exact q _ z
    · exact z
  · unfold lenO at h
    cases r with
    | nil => exact h.elim
    | cons r1 r2 =>
      cases r2 with
      | cons _ _ =>
        simp only [List.map_cons] at h
        unfold lenD at h
        split at h <;> first | exact h.elim | (rename_i e; simp at e)
      | nil =>
        have rx := lk_rp g r1
        simp only [List.map_cons, List.map_nil] at h
        rename_i d0
        generalize lk O d0 = d at rx h
        cases d <;> first | exact h.elim | skip
        · cases rx.str; exact ⟨_, _, rfl, ⟨h.1, rfl⟩, h.2 _ _ _ (Step.refl g) (.int _)⟩
        · obtain ⟨a, vs, rfl, s, l⟩ := rx.lst g.sub
          exact ⟨_, _, rfl, .inl ⟨_, .inl (.inl s), rfl⟩, by rw [l.length]; exact h _ _ _ (Step.refl g) (.int _)⟩
        · obtain ⟨a, vs, rfl, s, l⟩ := rx.tup g.sub
          exact ⟨_, _, rfl, .inr ⟨_, s, rfl⟩, by rw [l.length]; exact h _ _ _ (Step.refl g) (.int _)⟩
theorem cd_int : CallD X B (.type "int") (pc toIntD) := by
  refine ⟨fun O x Q Q' q z => ?_, _, call_int1, fun O G H vs ds Q g r h => ?_⟩
  · dsimp only [pc] at z ⊢; unfold toIntD at z ⊢
    split at z
    · exact q _ z
    · exact q _ z
    · exact z
  · dsimp only [pc] at h; unfold toIntD at h
    split at h
    · cases r with | cons r1 r2 => cases r2; cases r1; exact .inl ⟨_, rfl, h _ _ _ (Step.refl g) (.int _)⟩
    · cases r with | cons r1 r2 => cases r2; cases r1; exact .inr ⟨_, rfl, h _ _ _ (Step.refl g) (.int _)⟩
    · exact h.elim
theorem cd_all (hc : X.calm = true) : CallD X B (.builtin "all") (pc allD) := by
  refine ⟨fun O x Q Q' q z => ?_, _, cr_all hc, fun O G H vs ds Q g r h => ?_⟩
  · dsimp only [pc] at z ⊢; unfold allD at z ⊢
    split at z
    · split at z
      · exact q _ z
      · exact z
    · exact z
  · dsimp only [pc] at h; unfold allD at h
    split at h
    · split at h
      · rename_i bs eb
        cases r with | cons r1 r2 => cases r2; cases r1 with | lst s l => exact ⟨_, bs, rfl, by rw [← toBs_vs l eb]; exact g.sub.lstL s, h _ _ _ (Step.refl g) (.bl _)⟩
      · exact h.elim
    · exact h.elim
theorem cd_isi : CallD X B (.builtin "isinstance") (pc isiD) := by
  refine ⟨fun O x Q Q' q z => ?_, _, call_isi, fun O G H vs ds Q g r h => ?_⟩
  · dsimp only [pc] at z ⊢; unfold isiD at z ⊢
    split at z
    · exact ⟨z.1, z.2.1, q _ z.2.2⟩
    · exact z
  · dsimp only [pc] at h; unfold isiD at h
    split at h
    · obtain ⟨h1, h2, h3⟩ := h
      obtain ⟨t, ht⟩ := Option.isSome_iff_exists.mp h2
      cases r with
      | cons r1 r2 =>
        cases r2 with
        | cons r3 r4 =>
          cases r4
          cases r3
          exact ⟨_, _, _, _, _, rfl, .ty _, r1.ty g.sub ht, kit_isi ht h1, h3 _ _ _ (Step.refl g) (.bl _)⟩
    · exact h.elim
/-- isinstance(x, (A, B, ..)) -/
abbrev dIsiT (m : DE) (mA : DA) : DE := fun ρ O Q E => m ρ O (fun x O1 => mA ρ O1 (fun cs O2 => cs.length ≤ 100 ∧ (tyD x).isSome = true ∧ match isAny x cs with
  | some b => Q (.bl b) O2
  | none => False) E) E
theorem d_isiT {es : List Expr} {mA : DA} {k : Nat} {tpos : Pos} (hg : Gl X "isinstance") (hm : X.mg "isinstance" = none) (he : DPE X L e m) (ha : DPA X L es mA)
    (hs : starEach [e, .Tuple es k tpos] X.env = (false, eval e X.env) :: starEach [.Tuple es k tpos] X.env) (hs2 : starEach [.Tuple es k tpos] X.env = (false, eval (.Tuple es k tpos) X.env) :: starEach [] X.env) (hpl : (backTo pos (starEach [.Tuple es k tpos] X.env)).any (·.1) = false) :
    DPE X L (.Call (.Name "isinstance" p) [e, .Tuple es k tpos] [] pos) (dIsiT m mA) := by
  refine ⟨fun ρ O Q Q' E E' q hx x => he.mo _ _ _ _ _ _ (fun _ _ z => ha.mo _ _ _ _ _ _ (fun cs _ y => ⟨y.1, y.2.1, ?_⟩) hx z) hx x, pe_imp (pe_callB call_isiT hg hm boot_isinstance (pa_cons he.run (pa_cons (pe_tup ha.run) pa_nil hs2) hs) (by decide) (by decide) hs hpl) fun σ H Q ⟨G, O, ρ, g, rs, q⟩ => ?_⟩
  · obtain ⟨_, _, y⟩ := y
    split at y
    · exact q _ _ y
    · exact y
  · refine up_of he.mo g rs q fun x v O1 G1 H1 q1 s1 r1 => ?_
    refine upA_of ha.mo s1.good (rs.step s1) (mo_step ha.mo s1 q1) fun cs vs O2 G2 H2 q2 s2 r2 => ?_
    obtain ⟨h1, h2, h3⟩ := q2
    obtain ⟨t, ht⟩ := Option.isSome_iff_exists.mp h2
    refine ⟨by rw [r2.length]; exact Nat.le_trans h1 (by decide), fun p np => ?_⟩
    split at h3
    · rename_i b eb
      obtain ⟨us, pu, ku⟩ := isAny_run ht r2 eb
      have s3 := Step.new (o := .tup vs) s2.good np
      exact ⟨_, _, _, _, _, _, rfl, upd_same, pu, (r1.mono (s2.trans s3).grow).ty s3.good.sub ht, ku, h3 _ _ _ ((s1.trans s2).trans s3) (.bl _)⟩
    · exact h3.elim
/-- a built-in class's name as a value -/
theorem d_ty {x : Str} {n : String} (hg : Gl X x) (hm : X.mg x = none) (hv : bootBuiltins x = some (.type n)) (hn : x ≠ "__name__") (hd : (x == ("__debug__" : Str)) = false) : DPE X L (.Name x pos) (dC (.opq (.ty n))) := d_c (v := .ty n) (pe_bltn hg hm hv rfl hn hd) fun _ => .opq _
theorem d_globI {x : Str} {i : Int} {t : Tok} (hg : Gl X x) (hm : X.mg x = some (.int i t)) (hd : (x == ("__debug__" : Str)) = false) : DPE X L (.Name x pos) (dC (.int i)) := d_c (v := .int i) (pe_glob hg hm ⟨t, rfl⟩ hd) fun _ => .int i
theorem d_globS {x : Str} {i : Str} {t : Tok} (hg : Gl X x) (hm : X.mg x = some (.str i t)) (hd : (x == ("__debug__" : Str)) = false) : DPE X L (.Name x pos) (dC (.str i)) := d_c (v := .str i) (pe_glob hg hm ⟨t, rfl⟩ hd) fun _ => .str i
/-! ### texts -/
def toSs : List D → Option (List Str)
  | [] => some []
  | .str b :: r => (toSs r).map (b :: ·)
  | _ => none
theorem toSs_vs {K : PySem.W.Frag} {G : Hp} : ∀ {ds : List D} {vs : List V} {bs : List Str}, RpL K G vs ds → toSs ds = some bs → vs = bs.map V.str
  | [], _, _, .nil, e => by cases e; rfl
  | .str b :: r, _, _, .cons (.str _) t, e => by
    simp only [toSs, Option.map_eq_some_iff] at e
    obtain ⟨bs, e1, rfl⟩ := e
    rw [toSs_vs t e1]; rfl
def joinOn (a : Str) (xs : List D) (Q : D → Prop) : Prop := match toSs xs with
  | some ys => (ys.map (·.length)).sum + ys.length * a.length ≤ 16777216 ∧ Q (.str (Txt.join a ys))
  | none => False
def joinD (a : Str) : D → (D → Prop) → Prop
  | .lst xs, Q => joinOn a xs Q
  | .tup xs, Q => joinOn a xs Q
  | _, _ => False
theorem joinOn_mo {a : Str} {xs : List D} {Q Q' : D → Prop} (h : ∀ d, Q d → Q' d) (z : joinOn a xs Q) : joinOn a xs Q' := by
  unfold joinOn at z ⊢
  split at z
  · exact ⟨z.1, h _ z.2⟩
  · exact z
theorem joinD_mo : ∀ a y Q Q', (∀ d, Q d → Q' d) → joinD a y Q → joinD a y Q' := fun x y Q Q' h z => by
  unfold joinD at z ⊢
  split at z
  · exact joinOn_mo h z
  · exact joinOn_mo h z
  · exact z
/-- s.m(e) of a text -/
abbrev dM1 (o : Str → D → (D → Prop) → Prop) (mo m : DE) : DE := fun ρ O Q E => mo ρ O (fun x O1 => match x with
  | .str a => m ρ O1 (fun y O2 => o a y fun d => Q d O2) E
  | _ => False) E
theorem mo_m1 {o : Str → D → (D → Prop) → Prop} (ho : ∀ a y Q Q', (∀ d, Q d → Q' d) → o a y Q → o a y Q') (h1 : Mo mo') (h2 : Mo m) : Mo (dM1 o mo' m) := fun ρ O Q Q' E E' q hx x => h1 ρ _ _ _ _ _ (fun d O1 z => by
  cases d <;> first
    | exact h2 ρ _ _ _ _ _ (fun _ _ y => ho _ _ _ _ (fun _ => q _ _) y) hx z
    | exact z) hx x
theorem d_m1 {id : String} {name : Str} {apos : Pos} {r : V → List V → Hp → VK → Prop} {o' : Str → D → (D → Prop) → Prop} (slot : Slot "str" name id) (ty : typeOf (.builtin id) = pure (.type "method_descriptor")) (rule : MtR X id r)
    (hr : ∀ O G H a vy y Q, Good X.K L.B O G H → Rp X.K G vy y → o' a y (fun d => kv X.K L.B O G H Q d O) → r (.str a) [vy] H Q) (mo1 : ∀ a y Q Q', (∀ d, Q d → Q' d) → o' a y Q → o' a y Q') (ho : DPE X L o mo') (he : DPE X L e m)
    (hs : starEach [e] X.env = [(false, eval e X.env)]) (hbase : attributeBase o name X.env (eval o X.env) = eval o X.env) (hline : (apos.endLine == pos.line) = true) :
    DPE X L (.Call (.Attribute o name apos) [e] [] pos) (dM1 o' mo' m) := by
  refine ⟨mo_m1 mo1 ho.mo he.mo, pe_imp (pe_m1 slot ty rule ho.run he.run hs hbase hline) fun σ H Q ⟨G, O, ρ, g, rs, q⟩ => ?_⟩
  refine up_of ho.mo g rs q fun x v O1 G1 H1 q1 s1 r1 => ?_
  cases r1 with
  | str a =>
    refine ⟨⟨a, rfl⟩, up_of he.mo s1.good (rs.step s1) (mo_step he.mo s1 q1) fun y vy O2 G2 H2 q2 s2 r2 => ?_⟩
    exact hr O2 G2 H2 a vy y Q s2.good r2 (mo1 _ _ _ _ (fun _ z => z.step (s1.trans s2)) q2)
  | non => exact q1.elim
  | bl => exact q1.elim
  | int => exact q1.elim
  | opq => exact q1.elim
  | lst => exact q1.elim
  | tup => exact q1.elim
  | dic => exact q1.elim
  | ins => exact q1.elim
  | exc => exact q1.elim
  | lam => exact q1.elim
theorem d_join {apos : Pos} (ho : DPE X L o mo') (he : DPE X L e m) (hs : starEach [e] X.env = [(false, eval e X.env)]) (hbase : attributeBase o "join" X.env (eval o X.env) = eval o X.env) (hline : (apos.endLine == pos.line) = true) :
    DPE X L (.Call (.Attribute o "join" apos) [e] [] pos) (dM1 joinD mo' m) := by
  refine d_m1 F.slot_str_join F.type_str_join mt_join (fun O G H a vy y Q g ry h => ?_) joinD_mo ho he hs hbase hline
  unfold joinD at h
  split at h
  · unfold joinOn at h
    split at h
    · rename_i ys e1
      cases ry with
      | lst sq rl => exact ⟨a, _, ys, rfl, rfl, .inl (by rw [← toSs_vs rl e1]; exact g.sub.lstL sq), h.1, h.2 _ _ _ (Step.refl g) (.str _)⟩
    · exact h.elim
  · unfold joinOn at h
    split at h
    · rename_i ys e1
      cases ry with
      | tup sq rl => exact ⟨a, _, ys, rfl, rfl, .inr (by rw [← toSs_vs rl e1]; exact g.sub.sqT sq), h.1, h.2 _ _ _ (Step.refl g) (.str _)⟩
    · exact h.elim
  · exact h.elim
end
end EV
set_option Elab.async false
set_option linter.all false
set_option maxRecDepth 100000
set_option maxHeartbeats 4000000
namespace EV
open PySem PySem.Spec PyProof.Rows L2
/-! ### zip of two lists, tuples, texts -/
inductive Src where
  | lst (a : Addr) | tup (a : Addr) | str (y : Str)
def SrcAt (K : PySem.W.Frag) (H : Hp) : Src → List V → Prop
  | .lst a, xs => SqL K H a xs
  | .tup a, xs => SqT K H a xs
  | .str y, xs => xs = y.cps.toList.map fun c => V.str ⟨#[c]⟩
def Src.fp : Src → List Addr
  | .lst a => [a]
  | .tup a => [a]
  | .str _ => []
/-- the iterator at it of the source stands at i -/
def Src.pos (s : Src) (it : Addr) (i : Nat) (h : Heap) : Prop := match s with
  | .lst a => h.IsListIter it a i
  | .tup a => h.IsTupleIter it a i
  | .str y => ∃ t, h.IsStrIter it (strIterType y) y t i
def SrcV (v : V) (s : Src) : Prop := match s with
  | .lst a => v = .ref a
  | .tup a => v = .ref a
  | .str y => v = .str y
theorem Src.pos_at {s : Src} {it : Addr} {i : Nat} {h h' : Heap} (p : s.pos it i h) (k : ∀ o, h.get? it = some o → h'.get? it = some o) : s.pos it i h' := by
  cases s with
  | lst a => exact p.at k
  | tup a => exact p.at k
  | str y => obtain ⟨t, o, e, r⟩ := p; exact ⟨t, o, k _ e, r⟩
theorem Src.pos_obj {s : Src} {it : Addr} {i : Nat} {h : Heap} (p : s.pos it i h) : ∃ o, h.get? it = some o ∧ ∀ v, o.data ≠ .cell v := by
  cases s with
  | lst a => obtain ⟨o, e, _, d⟩ := p; exact ⟨o, e, fun v q => by rw [d] at q; cases q⟩
  | tup a => obtain ⟨o, e, _, d⟩ := p; exact ⟨o, e, fun v q => by rw [d] at q; cases q⟩
  | str y => obtain ⟨t, o, e, _, d⟩ := p; exact ⟨o, e, fun v q => by rw [d] at q; cases q⟩
section
variable {X : Cx} {pins : List (Addr × Obj)} {σ : L2.St} {H : Hp} {s : Shared}
theorem src_inj (I : Inv X pins σ H s) {r : Src} {xs ys : List V} (h1 : SrcAt X.K H r xs) (h2 : SrcAt X.K H r ys) : xs = ys := by
  cases r with
  | lst a => exact I.list_inj h1 h2
  | tup a => exact I.tuple_inj h1 h2
  | str y => exact h1.trans h2.symm
/-- what the source's iterator draws, where it stands -/
theorem src_draws (I : Inv X pins σ H s) {r : Src} {xs : List V} {it : Addr} {i : Nat} (h : SrcAt X.K H r xs) (p : r.pos it i s.heap) (A : Around) (hh : A.handled = none) (ne : it ∉ r.fp) :
    ∃ (fp : List Addr) (P : Nat → Value → Prop) (St : Nat → Heap → Prop), fp = it :: r.fp ∧ Draws X.prog X.w A it fp xs.length P St ∧ St i s.heap ∧ (∀ j u, P j u → ∃ x, xs[j]? = some x ∧ RelV x u) ∧ ∀ j h, St j h → r.pos it j h := by
  cases r with
  | lst a =>
    obtain ⟨its, rv, pl, _⟩ := I.list h
    refine ⟨[it, a], fun i v => its.toArray[i]? = some v, fun i h => h.IsListIter it a i ∧ h.IsList a its.toArray, rfl, by rw [rv.length]; exact Draws.list hh it a (fun z => ne (by simp [Src.fp, z])) its.toArray, ⟨p, pl.isList⟩, fun j u hj => ?_, fun j h st => st.1⟩
    have hj' : its[j]? = some u := by simpa using hj
    cases e : xs[j]? with
    | none => rw [rv.none_of e] at hj'; cases hj'
    | some x =>
      obtain ⟨u', e2, r2⟩ := rv.get e
      rw [hj'] at e2
      cases e2
      exact ⟨x, rfl, r2⟩
  | tup a =>
    obtain ⟨its, rv, pl, _⟩ := I.tuple h
    refine ⟨[it, a], fun i v => its.toArray[i]? = some v, fun i h => h.IsTupleIter it a i ∧ h.IsTuple a its.toArray, rfl, by rw [rv.length]; exact Draws.tuple hh it a (fun z => ne (by simp [Src.fp, z])) its.toArray, ⟨p, pl⟩, fun j u hj => ?_, fun j h st => st.1⟩
    have hj' : its[j]? = some u := by simpa using hj
    cases e : xs[j]? with
    | none => rw [rv.none_of e] at hj'; cases hj'
    | some x =>
      obtain ⟨u', e2, r2⟩ := rv.get e
      rw [hj'] at e2
      cases e2
      exact ⟨x, rfl, r2⟩
  | str y =>
    obtain ⟨t, p⟩ := p
    have h : xs = y.cps.toList.map fun c => V.str ⟨#[c]⟩ := h
    refine ⟨[it], _, _, rfl, by rw [h, List.length_map, Array.length_toList]; exact Draws.text hh it y t, p, fun j u hj => ?_, fun j h st => ⟨t, st⟩⟩
    obtain ⟨c, u', e, rfl⟩ := hj
    refine ⟨.str ⟨#[c]⟩, ?_, ⟨u', rfl⟩⟩
    rw [h, List.getElem?_map, Array.getElem?_toList, e]
    rfl
end
def Itzz (K : PySem.W.Frag) (r1 r2 : Src) : It :=
  ⟨fun i H => ∃ (xs ys : List V) (x y : V), SrcAt K H r1 xs ∧ SrcAt K H r2 ys ∧ xs[i]? = some x ∧ ys[i]? = some y,
    fun i H v H' => ∃ T x y, v = .ref T ∧ H T = none ∧ H' = upd H T (.tup [x, y]) ∧ (∀ xs, SrcAt K H r1 xs → xs[i]? = some x) ∧ ∀ ys, SrcAt K H r2 ys → ys[i]? = some y,
    fun i H => ∃ xs ys : List V, SrcAt K H r1 xs ∧ SrcAt K H r2 ys ∧ i = min xs.length ys.length⟩
theorem turn_zz {P : Program} {w : World} {K : PySem.W.Frag} {elts : List Expr} {kk : Nat} {tpos : Pos} {z TI TO i1 i2 : Addr} {r1 r2 : Src} (S : ZipSep2 z TI TO i1 i2 (i1 :: r1.fp) (i2 :: r2.fp)) (n1 : i1 ∉ r1.fp) (n2 : i2 ∉ r2.fp) (nTI : TI ∉ r1.fp ∧ TI ∉ r2.fp) :
    Turn P w K (.Tuple elts kk tpos) (Itzz K r1 r2) [z, TI, TO, i1, i2] z (fun i h => IsZip h z TI TO .none ∧ IsTupOf2 h TI (.ref i1) (.ref i2) ∧ (∃ x y, IsTupOf2 h TO x y) ∧ r1.pos i1 i h ∧ r2.pos i2 i h) where
  mem := by simp
  obj := fun i h st c hc => by
    obtain ⟨hz, hTI, ⟨x, y, hTO⟩, p1, p2⟩ := st
    have e' : c = z ∨ c = TI ∨ c = TO ∨ c = i1 ∨ c = i2 := by simpa using hc
    rcases e' with q | q | q | q | q
    · rw [q]; exact ⟨_, hz, fun v q => nomatch q⟩
    · rw [q]; exact ⟨_, hTI, fun v q => nomatch q⟩
    · rw [q]; exact ⟨_, hTO, fun v q => nomatch q⟩
    · rw [q]; exact Src.pos_obj p1
    · rw [q]; exact Src.pos_obj p2
  keep := fun i h h' st k => by
    obtain ⟨hz, hTI, ⟨x, y, hTO⟩, p1, p2⟩ := st
    exact ⟨k z (by simp) _ hz, k TI (by simp) _ hTI, ⟨x, y, k TO (by simp) _ hTO⟩, Src.pos_at p1 fun o q => k i1 (by simp) o q, Src.pos_at p2 fun o q => k i2 (by simp) o q⟩
  item := by
    intro X hP hw hK hc i pins s σ H E I hf st hg
    subst hP hw hK
    obtain ⟨hz, hTI, hTO, p1, p2⟩ := st
    obtain ⟨xs, ys, x, y, q1, q2, hx, hy⟩ := hg
    have hh : X.A.in1.handled = none := I.ok.hd hc
    obtain ⟨fp1, P1, St1, rfl, D1, st1, rel1, pos1⟩ := src_draws I q1 p1 X.A.in1 hh n1
    obtain ⟨fp2, P2, St2, rfl, D2, st2, rel2, pos2⟩ := src_draws I q2 p2 X.A.in1 hh n2
    have W := WalksT.zipD2 (A := X.A) S D1 D2
    have hi : i < min xs.length ys.length := by
      have a := getElem?_lt hx
      have b := getElem?_lt hy
      omega
    refine W.item i s _ E hi ⟨hz, hTI, hTO, st1, st2⟩ fun T vals h' tk hp hT hTup mid keep => ?_
    refine ⟨_, rfl, W.go elts kk tpos i T { s with heap := h', toks := tk } _ E mid fun h2 stn keep2 => ?_⟩
    obtain ⟨u, v, pu, pv, rfl⟩ := hp
    obtain ⟨x', ex, ru⟩ := rel1 i u pu
    obtain ⟨y', ey, rv⟩ := rel2 i v pv
    rw [hx] at ex
    rw [hy] at ey
    cases ex
    cases ey
    have nT : T ∉ [z, TO, i1, i2] := W.apart i T h' mid
    have hT2 : h2.IsTuple T #[u, v] := hTup.at fun o e => keep2 T o nT e
    have new : ObjOk X.prog X.w (upd H T (.tup [x, y])) h2 T (.tup [x, y]) := ⟨by show 2 ≤ sizeLine; decide, [u, v], .cons ru (.cons rv .nil), hT2⟩
    have kk2 : ∀ c o, c ∉ [z, TI, TO, i1, i2] → s.heap.get? c = some o → h2.get? c = some o := fun c o hc e => by
      have n : c ∉ [z, TO, i1, i2] := fun q => hc (by simp at q ⊢; rcases q with q | q | q | q <;> simp [q])
      exact keep2 c o n (keep c o n e)
    have I1 : Inv X pins σ (upd H T (.tup [x, y])) { s with heap := h2, toks := tk } := I.turnedNew (t' := tk) (ch := [z, TI, TO, i1, i2]) kk2 hf hT new
    refine ⟨.ref T, _, I1, rfl, ⟨T, x, y, rfl, I.hok.fresh hT, rfl, fun l hl => by rw [src_inj I hl q1]; exact hx, fun l hl => by rw [src_inj I hl q2]; exact hy⟩, ⟨stn.1, stn.2.1, stn.2.2.1, pos1 _ _ stn.2.2.2.1, pos2 _ _ stn.2.2.2.2⟩, fun c hcm => ?_⟩
    have hlt : c < s.heap.objs.size := by
      have e' : c = z ∨ c = TI ∨ c = TO ∨ c = i1 ∨ c = i2 := by simpa using hcm
      rcases e' with q | q | q | q | q
      · rw [q]; exact Heap.lt_size hz
      · rw [q]; exact Heap.lt_size hTI
      · obtain ⟨a, b, hTO⟩ := hTO
        rw [q]; exact Heap.lt_size hTO
      · rw [q]; obtain ⟨o, e, _⟩ := Src.pos_obj p1; exact Heap.lt_size e
      · rw [q]; obtain ⟨o, e, _⟩ := Src.pos_obj p2; exact Heap.lt_size e
    rw [upd_ne (Nat.ne_of_lt (Nat.lt_of_lt_of_le hlt hT))]
    exact (hf c hcm).1
  done := by
    intro X hP hw hK hc i pins s σ H E I hf st hg
    subst hP hw hK
    obtain ⟨hz, hTI, hTO, p1, p2⟩ := st
    obtain ⟨xs, ys, q1, q2, hend⟩ := hg
    have hh : X.A.in1.handled = none := I.ok.hd hc
    obtain ⟨fp1, P1, St1, rfl, D1, st1, rel1, pos1⟩ := src_draws I q1 p1 X.A.in1 hh n1
    obtain ⟨fp2, P2, St2, rfl, D2, st2, rel2, pos2⟩ := src_draws I q2 p2 X.A.in1 hh n2
    have W := WalksT.zipD2 (A := X.A) S D1 D2
    subst hend
    refine W.done s _ E ⟨hz, hTI, hTO, st1, st2⟩ fun h' tk keep => ⟨rfl, I.turnedL (t' := tk) (ch := [z, TI, TO, i1, i2]) (fun c o hc e => ?_) hf⟩
    exact keep c o (fun q => hc (by simp at q ⊢; rcases q with q | q | q | q <;> simp [q])) e
  self := fun A i s Q E st h => wpAny_pyIter_zip st.1 h
section
variable {X : Cx} {L : Pl} {pins : List (Addr × Obj)} {σ : L2.St} {H : Hp} {s : Shared} {e e2 : Expr} {mA : DA} {pos p : Pos}
theorem src_begins (I : Inv X pins σ H s) {r : Src} {xs : List V} {v : V} {u : Value} (hv : SrcV v r) (h : SrcAt X.K H r xs) (ru : RelV v u) :
    ∃ (o : Obj) (Hc : Heap → Prop), Begins u o Hc ∧ Hc s.heap ∧ (∀ it h', h'.get? it = some o → r.pos it 0 h') ∧ ∀ b ∈ r.fp, b < s.heap.objs.size := by
  cases r with
  | lst a =>
    cases (show v = .ref a from hv)
    cases ru
    obtain ⟨its, rv, pl, _⟩ := I.list h
    refine ⟨_, _, begins_list a its.toArray, pl.isList, fun it h' e => ⟨_, e, rfl, rfl⟩, fun b hb => ?_⟩
    have hb : b = a := by simpa [Src.fp] using hb
    rw [hb]
    obtain ⟨o, e, _⟩ := pl.isList
    exact Heap.lt_size e
  | tup a =>
    cases (show v = .ref a from hv)
    cases ru
    obtain ⟨its, rv, pl, _⟩ := I.tuple h
    refine ⟨_, _, begins_tuple a its.toArray, pl, fun it h' e => ⟨_, e, rfl, rfl⟩, fun b hb => ?_⟩
    have hb : b = a := by simpa [Src.fp] using hb
    rw [hb]
    obtain ⟨o, e, _⟩ := (show s.heap.IsTuple a its.toArray from pl)
    exact Heap.lt_size e
  | str y =>
    cases (show v = .str y from hv)
    obtain ⟨t, rfl⟩ := ru
    exact ⟨_, _, begins_text y t, trivial, fun it h' e => ⟨t, _, e, rfl, rfl⟩, fun b hb => by cases hb⟩
def iZz (K : PySem.W.Frag) (ta : TA) : TI := fun σ H R => ta σ H fun vs H1 => ∃ v1 v2 r1 r2, vs = [v1, v2] ∧ SrcV v1 r1 ∧ SrcV v2 r2 ∧ (∃ xs, SrcAt K H1 r1 xs) ∧ (∃ ys, SrcAt K H1 r2 ys) ∧ R (Itzz K r1 r2) H1
theorem pi_zz {ta : TA} {tpos : Pos} {elts : List Expr} {kk : Nat} (hg : Gl X "zip") (hm : X.mg "zip" = none) (ha : PA X [e, e2] ta)
    (hs : starEach [e, e2] X.env = (false, eval e X.env) :: starEach [e2] X.env) (hpl : (backTo pos (starEach [e2] X.env)).any (·.1) = false) :
    PI X (.Tuple elts kk tpos) (.Call (.Name "zip" p) [e, e2] [] pos) (iZz X.K ta) := by
  refine ⟨fun pins s σ H R I h => ?_⟩
  refine Call_ (ld_blt I hg hm PyProof.Rows.boot_zip (PyProof.Rows.callWith_type1 (thn (ha.run pos pins s σ H _ I h) fun us s1 ⟨vs, H1, I1, r1, q1⟩ => ?_) hs hpl))
  obtain ⟨v1, v2, c1, c2, ex, k1, k2, ⟨xs, a1⟩, ⟨ys, a2⟩, q⟩ := q1
  subst ex
  cases r1 with
  | cons r rr =>
    cases rr with
    | cons r' rr =>
      cases rr
      obtain ⟨o1, Hc1, B1, h1, p1, f1⟩ := src_begins I1 k1 a1 r
      obtain ⟨o2, Hc2, B2, h2, p2, f2⟩ := src_begins I1 k2 a2 r'
      refine zip_begins2 B1 B2 h1 h2 fun h' hz hTI hTO g1 g2 hsz hk => ?_
      refine wpAny_pyIter_zip hz ?_
      have S := zip_sep2 (N := s1.heap.objs.size) f1 f2
      have nf : ∀ {fp : List Addr} {c : Addr}, (∀ b ∈ fp, b < s1.heap.objs.size) → s1.heap.objs.size ≤ c → c ∉ fp := fun hf hc z => absurd (Nat.lt_of_lt_of_le (hf _ z) hc) (Nat.lt_irrefl _)
      have I2 : Inv X pins σ H1 { s1 with heap := h' } := I1.kept (t' := s1.toks) hk
      refine ⟨s1.heap.objs.size + 4, [s1.heap.objs.size + 4, s1.heap.objs.size + 2, s1.heap.objs.size + 3, s1.heap.objs.size, s1.heap.objs.size + 1], _, _, H1, rfl, I2,
        turn_zz S (nf f1 (Nat.le_refl _)) (nf f2 (Nat.le_succ _)) ⟨nf f1 (Nat.le_add_right _ _), nf f2 (Nat.le_add_right _ _)⟩, ⟨hz, hTI, ⟨_, _, hTO⟩, p1 _ _ g1, p2 _ _ g2⟩, fun b hb => ?_, q⟩
      have hb' : s1.heap.objs.size ≤ b := by
        have e' : b = s1.heap.objs.size + 4 ∨ b = s1.heap.objs.size + 2 ∨ b = s1.heap.objs.size + 3 ∨ b = s1.heap.objs.size ∨ b = s1.heap.objs.size + 1 := by simpa using hb
        rcases e' with q | q | q | q | q <;> rw [q]
        · exact Nat.le_add_right _ _
        · exact Nat.le_add_right _ _
        · exact Nat.le_add_right _ _
        · exact Nat.le_refl _
        · exact Nat.le_succ _
      exact I1.fpOk hb' (I1.hok.fresh hb')
def zipL (xs ys : List D) : List D := List.zipWith (fun a b => .tup [a, b]) xs ys
/-- the items of a datum that is shown -/
def itemsP : D → (List D → Prop) → Prop
  | .lst xs, Q => Q xs
  | .tup xs, Q => Q xs
  | .str y, Q => Q (charsD y)
  | _, _ => False
theorem itemsP_mo : ∀ {x : D} {Q Q' : List D → Prop}, (∀ d, Q d → Q' d) → itemsP x Q → itemsP x Q'
  | .lst _, _, _, h, z => h _ z
  | .tup _, _, _, h, z => h _ z
  | .str _, _, _, h, z => h _ z
def zipD : List D → (IL → Prop) → Prop
  | [x, y], Q => itemsP x fun xs => itemsP y fun ys => Q (tt1, zipL xs ys)
  | _, _ => False
theorem zipD_mo {x : List D} {Q Q' : IL → Prop} (h : ∀ d, Q d → Q' d) (z : zipD x Q) : zipD x Q' := by
  unfold zipD at z ⊢
  split at z
  · exact itemsP_mo (fun _ y => itemsP_mo (fun _ w => h _ w) y) z
  · exact z
abbrev dZip (mA : DA) : DI := fun ρ O Q E => mA ρ O (fun xs O1 => zipD xs fun l => Q l O1) E
/-- a datum that is walked, as a source -/
theorem src_of {K : PySem.W.Frag} {G : Hp} {v : V} {d : D} {Q : List D → Prop} (r : Rp K G v d) (h : itemsP d Q) : ∃ (c : Src) (xs : List V) (ds : List D), SrcV v c ∧ RpL K G xs ds ∧ (∀ H, Sub G H → SrcAt K H c xs) ∧ Q ds := by
  cases r with
  | lst s l => exact ⟨.lst _, _, _, rfl, l, fun H sb => sb.lstL s, h⟩
  | tup s l => exact ⟨.tup _, _, _, rfl, l, fun H sb => sb.sqT s, h⟩
  | str y =>
    refine ⟨.str y, _, charsD y, rfl, ?_, fun H _ => rfl, h⟩
    have : ∀ cs : List Nat, RpL K G (cs.map fun c => V.str ⟨#[c]⟩) (cs.map fun c => D.str ⟨#[c]⟩) := fun cs => by
      induction cs with
      | nil => exact .nil
      | cons c r ih => exact .cons (.str _) ih
    exact this _
  | non => exact h.elim
  | bl => exact h.elim
  | int => exact h.elim
  | opq => exact h.elim
  | dic => exact h.elim
  | ins => exact h.elim
  | exc => exact h.elim
  | lam => exact h.elim
theorem itd_zz {K : PySem.W.Frag} {B : Bo} {G0 : Hp} {c1 c2 : Src} {xs ys : List V} {ds es : List D} (r1 : RpL K G0 xs ds) (r2 : RpL K G0 ys es) (a1 : ∀ H, Sub G0 H → SrcAt K H c1 xs) (a2 : ∀ H, Sub G0 H → SrcAt K H c2 ys) : ItD K B G0 (Itzz K c1 c2) (tt1, zipL ds es) := fun i O G H g sb _ => by
  have sH := sb.trans g.sub
  have hl : (zipL ds es).length = min xs.length ys.length := by simp [zipL, r1.length, r2.length]
  refine ⟨fun d e => ?_, fun (h : i = (zipL ds es).length) => ⟨xs, ys, a1 H sH, a2 H sH, by rw [← hl]; exact h⟩⟩
  have e : (zipL ds es)[i]? = some d := e
  unfold zipL at e
  rw [List.getElem?_zipWith] at e
  split at e
  · rename_i d1 d2 e1 e2
    cases e
    obtain ⟨v1, f1, q1⟩ := r1.get e1
    obtain ⟨v2, f2, q2⟩ := r2.get e2
    refine ⟨⟨xs, ys, v1, v2, a1 H sH, a2 H sH, f1, f2⟩, fun x H' y => ?_⟩
    obtain ⟨T, x', y', rfl, nT, rfl, g1, g2⟩ := y
    have h1 := g1 xs (a1 H sH)
    have h2 := g2 ys (a2 H sH)
    rw [f1] at h1
    rw [f2] at h2
    cases h1
    cases h2
    exact ⟨_, Step.new g nT, new_tup g nT (.cons (q1.mono sb) (.cons (q2.mono sb) .nil))⟩
  · cases e
theorem d_zip {tpos : Pos} {elts : List Expr} {kk : Nat} (hg : Gl X "zip") (hm : X.mg "zip" = none) (ha : DPA X L [e, e2] mA)
    (hs : starEach [e, e2] X.env = (false, eval e X.env) :: starEach [e2] X.env) (hpl : (backTo pos (starEach [e2] X.env)).any (·.1) = false) :
    DPI X L (.Tuple elts kk tpos) (.Call (.Name "zip" p) [e, e2] [] pos) (dZip mA) := by
  refine ⟨fun ρ O Q Q' E E' q hx x => ha.mo ρ _ _ _ _ _ (fun _ _ z => zipD_mo (fun _ => q _ _) z) hx x, pi_imp (pi_zz hg hm ha.run hs hpl) fun σ H Q ⟨G, O, ρ, g, rs, q⟩ => ?_⟩
  refine upA_of ha.mo g rs q fun xs vs O1 G1 H1 q1 s1 r1 => ?_
  unfold zipD at q1
  split at q1
  · cases r1 with
    | cons r2 r3 =>
      cases r3 with
      | cons r4 r5 =>
        cases r5
        obtain ⟨c1, xs1, ds1, k1, l1, a1, q1⟩ := src_of r2 q1
        obtain ⟨c2, xs2, ds2, k2, l2, a2, q1⟩ := src_of r4 q1
        exact ⟨_, _, c1, c2, rfl, k1, k2, ⟨_, a1 _ s1.good.sub⟩, ⟨_, a2 _ s1.good.sub⟩, q1 _ _ _ s1 (itd_zz l1 l2 a1 a2)⟩
  · exact q1.elim
end
end EV
set_option Elab.async false
set_option linter.all false
set_option maxRecDepth 100000
set_option maxHeartbeats 4000000
namespace EV
open PySem PySem.Spec PyProof.Rows L2
/-! ### comprehensions read -/
/-- one turn: Qy where an item is kept, Qs where not -/
def elW (g : DG) (tt : DT) (te : DE) (ρ : Slots) (d : D) (O : Ow) (Qy : QD) (Qs : Ow → Prop) : Prop :=
  g d ρ fun ρ' => tt ρ' O (fun c O1 => bc c (te ρ' O1 Qy (fun _ _ => False)) (Qs O1)) (fun _ _ => False)
theorem lcW_cons {I : Ow → Prop} {g : DG} {tt : DT} {te : DE} {ρ : Slots} {d : D} {ds acc : List D} {O : Ow} {Q : List D → Ow → Prop} (hI : I O) (h : elW g tt te ρ d O (fun y O1 => acc.length < sizeLine ∧ lcW I g tt te ρ ds (acc ++ [y]) O1 Q) (fun O1 => lcW I g tt te ρ ds acc O1 Q)) : lcW I g tt te ρ (d :: ds) acc O Q := ⟨hI, h⟩
/-- each turn gives what f tells, and changes nothing -/
theorem lcW_fm {I : Ow → Prop} {g : DG} {tt : DT} {te : DE} {ρ : Slots} {O : Ow} (hI : I O) (f : D → Option D) {Q : List D → Ow → Prop} : ∀ {ds acc : List D}, (∀ d ∈ ds, ∀ (Qy : QD) (Qs : Ow → Prop), (∀ y, f d = some y → Qy y O) → (f d = none → Qs O) → elW g tt te ρ d O Qy Qs) → acc.length + ds.length ≤ sizeLine →
    Q (acc ++ ds.filterMap f) O → lcW I g tt te ρ ds acc O Q
  | [], acc, _, _, q => ⟨hI, by simpa using q⟩
  | d :: ds, acc, h, hl, q => by
    have hl' : acc.length + (ds.length + 1) ≤ sizeLine := hl
    refine lcW_cons hI (h d List.mem_cons_self _ _ (fun y e => ⟨by omega, lcW_fm hI f (fun d' m => h d' (List.mem_cons_of_mem _ m)) (by simp; omega) ?_⟩) (fun e => lcW_fm hI f (fun d' m => h d' (List.mem_cons_of_mem _ m)) (by omega) ?_))
    · rw [List.filterMap_cons, e] at q
      simpa using q
    · rw [List.filterMap_cons, e] at q
      exact q
theorem lcW_map {I : Ow → Prop} {g : DG} {te : DE} {ρ : Slots} {O : Ow} (hI : I O) (f : D → D) {Q : List D → Ow → Prop} {ds acc : List D} (h : ∀ d ∈ ds, ∀ (Qy : QD), Qy (f d) O → g d ρ fun ρ' => te ρ' O Qy fun _ _ => False) (hl : acc.length + ds.length ≤ sizeLine) (q : Q (acc ++ ds.map f) O) : lcW I g dYes te ρ ds acc O Q := by
  refine lcW_fm hI (fun d => some (f d)) (fun d m Qy Qs h1 _ => ?_) hl (by simpa [List.filterMap_eq_map'] using q)
  exact h d m Qy (h1 _ rfl)
/-- each turn gives something that P tells of -/
inductive Each (P : D → D → Prop) : List D → List D → Prop
  | nil : Each P [] []
  | cons {d y : D} {ds ys : List D} : P d y → Each P ds ys → Each P (d :: ds) (y :: ys)
theorem Each.length {P : D → D → Prop} : ∀ {ds ys : List D}, Each P ds ys → ys.length = ds.length
  | _, _, .nil => rfl
  | _, _, .cons _ r => congrArg (· + 1) r.length
theorem lcW_each {I : Ow → Prop} {g : DG} {te : DE} {ρ : Slots} {O : Ow} (hI : I O) (P : D → D → Prop) {Q : List D → Ow → Prop} : ∀ {ds acc : List D}, (∀ d ∈ ds, ∀ (Qy : QD), (∀ y, P d y → Qy y O) → g d ρ fun ρ' => te ρ' O Qy fun _ _ => False) → acc.length + ds.length ≤ sizeLine →
    (∀ ys, Each P ds ys → Q (acc ++ ys) O) → lcW I g dYes te ρ ds acc O Q
  | [], acc, _, _, q => ⟨hI, by simpa using q [] .nil⟩
  | d :: ds, acc, h, hl, q => by
    have hl' : acc.length + (ds.length + 1) ≤ sizeLine := hl
    refine ⟨hI, h d List.mem_cons_self _ fun y py => ⟨by omega, lcW_each hI P (fun d' m => h d' (List.mem_cons_of_mem _ m)) (by simp; omega) fun ys r => ?_⟩⟩
    simpa using q (y :: ys) (.cons py r)
theorem toBs_map {α : Type} (f : α → Bool) : ∀ xs : List α, toBs (xs.map fun x => .bl (f x)) = some (xs.map f)
  | [] => rfl
  | x :: xs => by simp [toBs, toBs_map f xs]
theorem allD_of {xs : List D} {bs : List Bool} {Q : D → Prop} (h : toBs xs = some bs) (q : Q (.bl (bs.all id))) : allD [.lst xs] Q := by
  simp only [allD, h]
  exact q
theorem anyD_of {xs : List D} {bs : List Bool} {Q : D → Prop} (h : toBs xs = some bs) (q : Q (.bl (bs.any id))) : anyD [.lst xs] Q := by
  simp only [anyD, h]
  exact q
/-! ### texts as lists of codes; loops by an invariant -/
def co (x : Str) : List Nat := x.cps.toList
theorem co_len (x : Str) : (co x).length = x.length := by simp [co]; rfl
theorem co_app (x y : Str) : co (x ++ y) = co x ++ co y := by
  show (x.cps ++ y.cps).toList = _
  simp [co]
theorem fold_sing (acc : Array Nat) : ∀ cs : List Nat, ((cs.map fun c => (⟨#[c]⟩ : Str)).foldl (fun acc p => acc ++ (Str.empty).cps ++ p.cps) acc).toList = acc.toList ++ cs
  | [] => by simp
  | c :: cs => by
    rw [List.map_cons, List.foldl_cons, fold_sing _ cs]
    simp [Str.empty]
theorem join_sing (cs : List Nat) : co (Txt.join Str.empty (cs.map fun c => ⟨#[c]⟩)) = cs := by
  cases cs with
  | nil => rfl
  | cons c cs =>
    show (((cs.map fun c => (⟨#[c]⟩ : Str))).foldl (fun acc p => acc ++ (Str.empty).cps ++ p.cps) #[c]).toList = c :: cs
    rw [fold_sing]
    rfl
theorem toSs_map {α : Type} (f : α → Str) : ∀ xs : List α, toSs (xs.map fun x => .str (f x)) = some (xs.map f)
  | [] => rfl
  | x :: xs => by simp [toSs, toSs_map f xs]
theorem co_cut (z : Str) (lo hi : Option Int) : co (cutS z lo hi) = ((co z).drop (HT.sIx z.length 0 lo)).take (HT.sIx z.length z.length hi - HT.sIx z.length 0 lo) := by
  unfold co cutS
  simp
theorem cut_to (z : Str) {k : Int} (h0 : 0 ≤ k) (h1 : k ≤ z.length) : co (cutS z none (some k)) = (co z).take k.toNat := by
  rw [co_cut, HT.sIx_none]
  have e : HT.sIx z.length z.length (some k) = k.toNat := by
    show (if k < 0 then (k + (z.length : Int)).toNat else min k.toNat z.length) = k.toNat
    rw [if_neg (by omega)]
    omega
  rw [e, List.drop_zero, Nat.sub_zero]
theorem cut_from (z : Str) {k : Int} (h0 : 0 ≤ k) (h1 : k ≤ z.length) : co (cutS z (some k) none) = (co z).drop k.toNat := by
  rw [co_cut, HT.sIx_none]
  have e : HT.sIx z.length 0 (some k) = k.toNat := by
    show (if k < 0 then (k + (z.length : Int)).toNat else min k.toNat z.length) = k.toNat
    rw [if_neg (by omega)]
    omega
  rw [e, List.take_of_length_le]
  rw [List.length_drop, co_len]
  omega
/-- a for by what holds ahead of each turn -/
theorem forW_at {I : Ow → Prop} {g : DG} {b : DS} {A : DEnds} (ds0 : List D) (J : Nat → Slots → Ow → Prop) (hJ : ∀ i r O, J i r O → I O) (h : ∀ i d, ds0[i]? = some d → ∀ ρ O, J i ρ O → ∀ N : Slots → Ow → Prop, (∀ r O, J (i + 1) r O → N r O) → g d ρ fun ρ' => b { A with nx := N, ct := N, bk := A.nx } ρ' O) (he : ∀ r O, J ds0.length r O → A.nx r O) :
    ∀ {ds : List D} {i : Nat} {ρ : Slots} {O : Ow}, ds = ds0.drop i → i ≤ ds0.length → J i ρ O → forW I g b A ds ρ O
  | [], i, _, _, e, hl, hi => ⟨hJ _ _ _ hi, he _ _ (by
      have : ds0.length ≤ i := by
        have := congrArg List.length e
        simp at this
        omega
      have e2 : i = ds0.length := by omega
      rw [← e2]; exact hi)⟩
  | d :: ds, i, ρ, O, e, hl, hi => by
    have hlt : i < ds0.length := by
      have := congrArg List.length e
      simp at this
      omega
    have ed : ds0.drop i = ds0[i] :: ds0.drop (i + 1) := List.drop_eq_getElem_cons hlt
    rw [ed] at e
    injection e with e1 e2
    exact ⟨hJ _ _ _ hi, h i d (by rw [e1]; exact List.getElem?_eq_getElem hlt) ρ O hi (forW I g b A ds) fun r O hr => forW_at ds0 J hJ h he e2 hlt hr⟩
end EV
set_option Elab.async false
set_option linter.all false
set_option maxRecDepth 100000
set_option maxHeartbeats 4000000
namespace EV
open PySem PySem.Spec PyProof.Rows L2
/-! ### fields -/
def putD (f : Str) (v : D) : List (Str × D) → List (Str × D)
  | [] => [(f, v)]
  | (g, x) :: r => if g = f then (g, v) :: r else (g, x) :: putD f v r
section
variable {K : PySem.W.Frag} {G H : Hp}
theorem RpF.look {f : Str} : ∀ {fs : List (Str × V)} {ds : List (Str × D)} {d : D}, RpF K G fs ds → ds.lookup f = some d → ∃ v, fs.lookup f = some v ∧ Rp K G v d
  | _, _, _, .nil, e => by simp at e
  | (k, v) :: fs, (_, x) :: ds, d, .cons r t, e => by
    rw [List.lookup_cons] at e ⊢
    cases hq : f == k with
    | true => rw [hq] at e; cases e; exact ⟨v, rfl, r⟩
    | false => rw [hq] at e; exact RpF.look t e
theorem RpF.look0 {f : Str} : ∀ {fs : List (Str × V)} {ds : List (Str × D)}, RpF K G fs ds → ds.lookup f = none → fs.lookup f = none
  | _, _, .nil, e => rfl
  | (k, v) :: fs, (_, x) :: ds, .cons r t, e => by
    rw [List.lookup_cons] at e ⊢
    cases hq : f == k with
    | true => rw [hq] at e; cases e
    | false => rw [hq] at e; exact RpF.look0 t e
theorem RpF.put {f : Str} {v : V} {d : D} (rv : Rp K G v d) : ∀ {fs : List (Str × V)} {ds : List (Str × D)}, RpF K G fs ds → RpF K G (putF f v fs) (putD f d ds)
  | _, _, .nil => .cons rv .nil
  | (k, x) :: fs, (_, y) :: ds, .cons r t => by
    unfold putF putD
    by_cases h : k = f
    · rw [if_pos h, if_pos h]; exact .cons rv t
    · rw [if_neg h, if_neg h]; exact .cons r (RpF.put rv t)
theorem RpF.length : ∀ {fs : List (Str × V)} {ds : List (Str × D)}, RpF K G fs ds → fs.length = ds.length
  | _, _, .nil => rfl
  | _, _, .cons _ t => congrArg (· + 1) (RpF.length t)
end
section
variable {X : Cx} {L : Pl} {e o a b c : Expr} {es rest : List Expr} {m mo' ma mb mc : DE} {mt mu : DT} {mA mK : DA} {pos p apos pos' : Pos}
variable {K : PySem.W.Frag} {B : Bo} {O : Ow} {W : L2.St → XK} {G H : Hp} {σ : L2.St} {ρ : Slots}
/-- the field f of an instance of C -/
def fldD (C : Addr) (f : Str) : D → (D → Prop) → Prop
  | .ins C' fs, Q => C' = C ∧ match fs.lookup f with
    | some d => Q d
    | none => False
  | _, _ => False
theorem fldD_mo {C : Addr} {f : Str} {x : D} {Q Q' : D → Prop} (h : ∀ d, Q d → Q' d) (z : fldD C f x Q) : fldD C f x Q' := by
  unfold fldD at z ⊢
  split at z
  · refine ⟨z.1, ?_⟩
    obtain ⟨_, z⟩ := z
    split at z
    · exact h _ z
    · exact z
  · exact z
abbrev dFld (C : Addr) (f : Str) (m : DE) : DE := fun ρ O Q E => m ρ O (fun x O1 => fldD C f (lk O1 x) fun d => Q d O1) E
theorem d_fld {C : Addr} {f : Str} (cl : Cls X.K C) (na : NoAttr X.K C f) (he : DPE X L e m) (hb : attributeBase e f X.env (eval e X.env) = eval e X.env) : DPE X L (.Attribute e f pos) (dFld C f m) := by
  refine ⟨fun ρ O Q Q' E E' q hx x => he.mo ρ _ _ _ _ _ (fun _ _ z => fldD_mo (fun _ => q _ _) z) hx x, pe_imp (pe_fld he.run hb) fun σ H Q ⟨G, O, ρ, g, rs, q⟩ => ?_⟩
  refine up_of he.mo g rs q fun x v O1 G1 H1 q1 s1 r1 => ?_
  have rx := lk_rp s1.good r1
  generalize lk O1 x = y at q1 rx
  unfold fldD at q1
  split at q1
  · obtain ⟨rfl, q1⟩ := q1
    split at q1
    · rename_i d ed
      obtain ⟨p, dx, fs, rfl, hp, rf⟩ := rx.ins s1.good.sub
      obtain ⟨w, ew, rw'⟩ := rf.look ed
      exact ⟨p, _, dx, fs, w, rfl, hp, cl, na, ew, q1 _ _ _ s1 rw'⟩
    · exact q1.elim
  · exact q1.elim
/-- o.f = e, o a handle -/
abbrev dSetF (C : Addr) (f : Str) (mo m : DE) : DS := fun A ρ O => m ρ O (fun d O1 => mo ρ O1 (fun x O2 => match x with
  | .opq (.ref p) => ∃ fs, O2 p = some (.ins C fs) ∧ fs.length < 1000 ∧ A.nx ρ (oset O2 p (.ins C (putD f d fs)))
  | _ => False) (fun x O1 => A.ex x ρ O1)) (fun x O1 => A.ex x ρ O1)
theorem d_setF {C : Addr} {f : Str} (cl : Cls X.K C) (na : NoAttr X.K C f) (ho : DPE X L o mo') (he : DPE X L e m) (hs : swapsWith e (some (.Attribute o f pos')) pos.line X.env = pure false) : DPS X L (.Assign [.Attribute o f pos'] e pos) (dSetF C f mo' m) := by
  refine ⟨fun A A' ρ O l z => he.mo _ _ _ _ _ _ (fun d O1 y => ho.mo _ _ _ _ _ _ (fun x O2 w => ?_) (fun x _ y => l.ex _ _ _ y) y) (fun x _ y => l.ex _ _ _ y) z, ps_imp (ps_fld ho.run he.run hs) fun Dn σ H ⟨G, O, ρ, g, rs, q⟩ => ?_⟩
  · split at w
    · obtain ⟨fs, a, b, c⟩ := w
      exact ⟨fs, a, b, l.nx _ _ c⟩
    · exact w
  · refine upE he.mo g rs q fun d v O1 G1 H1 q1 s1 r1 => ?_
    refine up_of ho.mo s1.good (rs.step s1) (ho.mo _ _ _ _ _ _ (fun _ _ z => z) (fun x _ z => (kx_of rs z).step s1) q1) fun x w O2 G2 H2 q2 s2 r2 => ?_
    split at q2
    · rename_i p
      cases r2
      obtain ⟨fs, ep, hl, q2⟩ := q2
      obtain ⟨nG, nb, dx, vs, hp, rf⟩ := s2.good.own p _ ep
      refine ⟨p, C, dx, vs, rfl, hp, cl, na, by rw [rf.length]; exact hl, ?_⟩
      have st := Step.put (o := .ins C dx (putF f v vs)) (d := .ins C (putD f d fs)) s2.good nG nb ⟨dx, _, upd_same, rf.put (r1.mono s2.grow)⟩ (.inl (by rw [ep]; exact Option.some_ne_none _))
      exact q2 σ _ _ ((s1.trans s2).trans st) (rs.step ((s1.trans s2).trans st))
    · exact q2.elim
/-! ### instances made -/
theorem make_step {C x dx : Addr} (g : Good K B O G H) (nx : H x = none) (nd : H dx = none) (hd : dx ≠ x) : Step K B O G H (oset O x (.ins C [])) G (upd (upd H dx (.own x)) x (.ins C dx [])) := by
  have s1 := Step.newH (o := .own x) g nd
  have nx1 : upd H dx (.own x) x = none := by rw [upd_ne hd.symm]; exact nx
  exact s1.trans (new_own s1.good nx1 ⟨dx, [], upd_same, .nil⟩)
/-- C(..), shown as it is behind __init__ -/
def mkF (C : Addr) (sp : DSp) (ds : List D) (O : Ow) (Q : QD) (E : QX) : Prop := ∀ p, O p = none → spM sp (.opq (.ref p) :: ds) (oset O p (.ins C [])) (fun d O2 => d = .non ∧ ∃ C' fs, O2 p = some (.ins C' fs) ∧ Q (.ins C' fs) (odel O2 p)) E
theorem run_mkF {C x dx : Addr} {sp : DSp} {vs : List V} {ds : List D} {Q : VK} {E : XK} (g : Good K B O G H) (r : RpL K G vs ds) (nx : H x = none) (nd : H dx = none) (hd : dx ≠ x) (h : mkF C sp ds O (kv K B O G H Q) (kx K B O G H E)) :
    spD K sp (.ref x :: vs) (upd (upd H dx (.own x)) x (.ins C dx [])) (fun v H2 => v = .non ∧ Q (.ref x) H2) E := by
  have s := make_step (C := C) g nx nd hd
  refine ⟨G, _, _, s.good.none, .cons (.opq _) r, spM_mo (fun d O2 z => kv.lift s.good fun v G' H' t rv => ?_) (fun x O2 z => kx.lift s.good (z.step s)) (h x (g.fresh nx))⟩
  obtain ⟨rfl, C', fs', ey, z⟩ := z
  cases rv
  obtain ⟨G2, f, rp⟩ := Step.freeze t.good (fun _ h => by cases h) ey
  exact ⟨rfl, z _ _ _ ((s.trans t).trans f) rp⟩
/-! ### keywords -/
structure DPK (X : Cx) (L : Pl) (kws : List Keyword) (m : DA) : Prop where
  mo : Mo m
  run : PK X kws (upA X.K L.B L.W m)
theorem pk_imp {kws : List Keyword} {t t' : TA} (h : PK X kws t) (i : ∀ σ H Q, t' σ H Q → t σ H Q) : PK X kws t' := ⟨fun pos pins s σ H Q I q => h.run pos pins s σ H Q I (i _ _ _ q)⟩
theorem d_knil : DPK X L [] dNil := ⟨mo_nil, pk_imp pk_nil fun σ H Q ⟨G, O, ρ, g, rs, q⟩ => q _ _ _ (Step.refl g) .nil⟩
/-- C(e, .., k = v, ..): gD orders the data -/
abbrev dMkK (C : Addr) (n m : Nat) (k : List D → List D → DSp) (mA mK : DA) : DE := fun ρ O Q E => mA ρ O (fun ds O1 => mK ρ O1 (fun zs O2 => ds.length = n ∧ zs.length = m ∧ k ds zs [] O2 Q E) E) E
/-! ### methods -/
/-- the instance, then the others -/
abbrev dMeth (C : Addr) (f : Str) (sp : DSp) (mo : DE) (mA : DA) : DE := fun ρ O Q E => mo ρ O (fun x O1 => (match lk O1 x with
  | .ins C' fs => C' = C ∧ fs.lookup f = none
  | _ => False) ∧ mA ρ O1 (fun ds O2 => spM sp (x :: ds) O2 Q E) E) E
theorem mo_meth {C : Addr} {f : Str} {sp : DSp} (ho : Mo mo') (ha : Mo mA) : Mo (dMeth C f sp mo' mA) := fun ρ O Q Q' E E' q hx x => ho ρ _ _ _ _ _ (fun _ _ z => ⟨z.1, ha ρ _ _ _ _ _ (fun _ _ y => spM_mo q hx y) hx z.2⟩) hx x
theorem ins_of {x : D} {v : V} {C : Addr} {f : Str} (g : Good K B O G H) (r : Rp K G v x) (h : match lk O x with
  | .ins C' fs => C' = C ∧ fs.lookup f = none
  | _ => False) : ∃ a dx fs, v = .ref a ∧ H a = some (.ins C dx fs) ∧ fs.lookup f = none := by
  have rx := lk_rp g r
  generalize lk O x = y at h rx
  split at h
  · obtain ⟨rfl, h⟩ := h
    obtain ⟨p, dx, fs, rfl, hp, rf⟩ := rx.ins g.sub
    exact ⟨p, dx, fs, rfl, hp, rf.look0 h⟩
  · exact h.elim
theorem d_meth {CX : CXT} {k : Nat} {C f : Addr} {fd : FuncData} {ps : List Str} {sp : DSp} {nm : Str} {E : XK} {pl : Sem Bool} (hE : ∀ σ, L.W σ = E) (cl : Cls X.K C) (hm : Meth X.K C nm f) (Fn : FnOk X.prog X.w X.K X.mg X.base CX k f fd ps (spD X.K sp)) (hr : Room k X.A) (hb : Binds X.K fd ps []) (hx : Passes CX X E)
    (ho : DPE X L o mo') (ha : DPA X L (e :: es) mA) (hst : starEach (e :: es) X.env = (false, eval e X.env) :: starEach es X.env) (hpl : (backTo pos (starEach es X.env)).any (·.1) = false)
    (ht : eval (.Call (.Attribute o nm apos) (e :: es) [] pos) X.env = (do
      let ov ← eval o X.env
      standAt apos.atName
      let (f, first) ← holding [ov] (getMethod ov nm pl)
      callWith pos f first (backTo pos (starEach (e :: es) X.env)) (backToKw pos (keywordEach [] X.env)))) : DPE X L (.Call (.Attribute o nm apos) (e :: es) [] pos) (dMeth C nm sp mo' mA) := by
  refine ⟨mo_meth ho.mo ha.mo, pe_imp (pe_meth ho.run cl hm Fn hr hb .nil hx ha.run hst hpl ht) fun σ H Q ⟨G, O, ρ, g, rs, q⟩ => ?_⟩
  refine up_of ho.mo g rs q fun x v O1 G1 H1 q1 s1 r1 => ?_
  obtain ⟨q0, q1⟩ := q1
  obtain ⟨p, dx, fs, ev, hp, hl⟩ := ins_of s1.good r1 q0
  refine ⟨p, dx, fs, ev, hp, hl, upA_of ha.mo s1.good (rs.step s1) (mo_step ha.mo s1 q1) fun ds vs O2 G2 H2 q2 s2 r2 => ?_⟩
  have s12 := s1.trans s2
  rw [List.append_nil]
  exact ⟨G2, O2, _, s2.good.none, .cons (r1.mono s2.grow) r2, spM_mo (fun d _ z => (z.step s12).lift s2.good) (fun x _ z => by rw [hE] at z; exact (z.step s12).lift s2.good) q2⟩
theorem d_meth0 {CX : CXT} {k : Nat} {C f : Addr} {fd : FuncData} {ps : List Str} {sp : DSp} {nm : Str} {E : XK} {pl : Sem Bool} (hE : ∀ σ, L.W σ = E) (cl : Cls X.K C) (hm : Meth X.K C nm f) (Fn : FnOk X.prog X.w X.K X.mg X.base CX k f fd ps (spD X.K sp)) (hr : Room k X.A) (hb : Binds X.K fd ps []) (hx : Passes CX X E)
    (ho : DPE X L o mo')
    (ht : eval (.Call (.Attribute o nm apos) [] [] pos) X.env = (do
      let ov ← eval o X.env
      standAt apos.atName
      let (f, first) ← holding [ov] (getMethod ov nm pl)
      callWith pos f first (backTo pos (starEach [] X.env)) (backToKw pos (keywordEach [] X.env)))) : DPE X L (.Call (.Attribute o nm apos) [] [] pos) (dMeth C nm sp mo' dNil) := by
  refine ⟨mo_meth ho.mo mo_nil, pe_imp (pe_meth0 ho.run cl hm Fn hr hb .nil hx ht) fun σ H Q ⟨G, O, ρ, g, rs, q⟩ => ?_⟩
  refine up_of ho.mo g rs q fun x v O1 G1 H1 q1 s1 r1 => ?_
  obtain ⟨q0, q1⟩ := q1
  obtain ⟨p, dx, fs, ev, hp, hl⟩ := ins_of s1.good r1 q0
  refine ⟨p, dx, fs, ev, hp, hl, ?_⟩
  show spD X.K sp (v :: ([] ++ [])) H1 Q E
  exact ⟨G1, O1, _, s1.good.none, .cons r1 .nil, spM_mo (fun d _ z => (z.step s1).lift s1.good) (fun x _ z => by rw [hE] at z; exact (z.step s1).lift s1.good) q1⟩
end
end EV
set_option Elab.async false
set_option linter.all false
set_option maxRecDepth 100000
set_option maxHeartbeats 4000000
namespace L2
open PySem PySem.Spec PyProof.Rows
end L2
set_option Elab.async false
set_option linter.all false
set_option maxRecDepth 100000
set_option maxHeartbeats 4000000
namespace L2
open PySem PySem.Spec PyProof.Rows PySem.XO
/-- an error class of the text: its name as code, its fields -/
structure Err (prog : Program) (w : World) (K : PySem.W.Frag) (mg : Str → Option Value) (base : Heap) (n : Nat) (C : Addr) (code : Str) (names : List Str) : Prop where
  kp : PySem.W.keepIn K (.ref C) = true
  exC : PySem.W.subIn K (.ref C) (.type "BaseException") = some true
  tyC : PySem.W.typeIn K (.ref C) = some (.type "type")
  run : Mod K mg base → ∀ (us : List Value), us.length = names.length → ∀ (A : Around) (R : Result → Shared → Prop) (s : Shared), (∀ b o, base.get? b = some o → s.heap.get? b = some o) → s.heap.NoLimit → A.depth + n < recursionLimit →
    (∀ h' tk e d mA t, (∀ f, mA f = List.lookup f ((("code" : Str), Value.str code t) :: names.zip us)) → Made s.heap h' e C d mA → R (.ok (.ret (.ref e))) { s with heap := h', toks := tk }) → codeAny (model prog w) A (.call (.ref C) ⟨us, []⟩) R s
def errF (code : Str) (names : List Str) (vs : List V) : List (Str × V) := (("code" : Str), V.str code) :: names.zip vs
theorem relO_zip {f : Str} : ∀ {names : List Str} {vs : List V} {us : List Value}, Vals vs us → RelO (List.lookup f (names.zip vs)) (List.lookup f (names.zip us))
  | [], _, _, _ => trivial
  | n :: ns, _, _, .nil => trivial
  | n :: ns, _, _, .cons r t => by
    simp only [List.zip_cons_cons, List.lookup_cons]
    cases f == n with
    | true => exact r
    | false => exact relO_zip t
theorem relO_err {f code : Str} {names : List Str} {vs : List V} {us : List Value} {t : Tok} (r : Vals vs us) : RelO ((errF code names vs).lookup f) (List.lookup f ((("code" : Str), Value.str code t) :: names.zip us)) := by
  unfold errF
  simp only [List.lookup_cons]
  cases f == ("code" : Str) with
  | true => exact ⟨t, rfl⟩
  | false => exact relO_zip r
end L2
namespace EV
open PySem PySem.Spec PyProof.Rows L2
theorem RpF.zip {K : PySem.W.Frag} {G : Hp} : ∀ {names : List Str} {vs : List V} {ds : List D}, RpL K G vs ds → RpF K G (names.zip vs) (names.zip ds)
  | [], _, _, _ => .nil
  | _ :: _, _, _, .nil => .nil
  | _ :: _, _, _, .cons r t => .cons r (RpF.zip t)
/-- the attributes of an error -/
def errD (code : Str) (names : List Str) (ds : List D) : List (Str × D) := (("code" : Str), D.str code) :: names.zip ds
end EV
set_option Elab.async false
set_option linter.all false
set_option maxRecDepth 100000
set_option maxHeartbeats 4000000
namespace PySem.W
open PySem PySem.Spec PySem.Calls PyProof.Rows
end PySem.W
namespace L2
open PySem PySem.Spec PyProof.Rows
end L2
namespace EV
open PySem PySem.Spec PyProof.Rows L2
end EV
set_option Elab.async false
set_option linter.all false
set_option maxRecDepth 100000
set_option maxHeartbeats 4000000
namespace EV
open PySem PySem.Spec PyProof.Rows L2
end EV
set_option Elab.async false
set_option linter.all false
set_option maxRecDepth 100000
set_option maxHeartbeats 4000000
namespace PySem
namespace XO
open PySem.W PySem.Calls PyProof.Rows PySem.HandSPX L2
/-- the text of an error's __init__ -/
structure IniD where
  cls : Str
  qual : Str
  params : Arguments
  body : List Stmt
  scope : Scope
def iniF (K : Frag) (c : Str) : Addr := He.ma K (He.ga K c) "__init__"
abbrev IniW := Option (Str × Str × Arguments × FuncBody × Scope × Addr × List Str × Addr)
def iniW (K : Frag) (c : Str) : IniW := match K.lookup (iniF K c) with
  | some ⟨_, _, .func fd, _⟩ => some (fd.name, fd.qualname, fd.params, fd.body, fd.scope, fd.globals, fd.closure.map (·.1), fd.builtins)
  | _ => none
def IniD.val (d : IniD) : IniW := some ("__init__", d.qual, d.params, .stmts d.body, d.scope, mainGlobals, ["__class__"], builtinsNs)
def cellB (K : Frag) (D : Addr) (cc : Addr) : Bool := match K.lookup cc with
  | some ⟨_, _, .cell (some (.ref a)), _⟩ => decide (a = D)
  | _ => false
def fileB (prog : Program) (K : Frag) : Value → Bool
  | .ref c => match K.lookup c with
    | some ⟨_, _, .fields vs, _⟩ => (match (vs[2]? : Option Value) with
      | some (Value.str file _) => (prog.main.file : Str) == file
      | _ => false)
    | _ => false
  | _ => false
def isNone : Value → Bool
  | .none => true
  | _ => false
def iniB (prog : Program) (K : Frag) (d : IniD) : Bool := match K.lookup (iniF K d.cls) with
  | some ⟨_, _, .func fd, _⟩ => codeIn K fd.code d.qual && (isNone fd.defaults && (isNone fd.kwdefaults && (fileB prog K fd.code && fd.closure.all fun q => cellB K (He.ga K d.cls) q.2)))
  | _ => false
theorem isNone_eq {v : Value} (h : isNone v = true) : v = .none := by cases v <;> first | rfl | cases h
theorem cellB_ok {K : Frag} {D cc : Addr} (h : cellB K D cc = true) : ∃ cl cld csl, K.lookup cc = some ⟨cl, cld, .cell (some (.ref D)), csl⟩ := by
  unfold cellB at h
  split at h
  · rename_i a b c d e
    exact ⟨_, _, _, by rw [e, of_decide_eq_true h]⟩
  · cases h
theorem fileB_ok {prog : Program} {K : Frag} {v : Value} (h : fileB prog K v = true) : ∃ c, v = .ref c ∧ ∃ ccl cdd vs ccs file tf, K.lookup c = some ⟨ccl, cdd, .fields vs, ccs⟩ ∧ vs[2]? = some (.str file tf) ∧ ((prog.main.file : Str) == file) = true := by
  unfold fileB at h
  split at h
  · rename_i c
    split at h
    · rename_i e
      split at h
      · rename_i e2
        exact ⟨c, rfl, _, _, _, _, _, _, e, e2, h⟩
      · cases h
    · cases h
  · cases h
/-- what can be seen of a scope -/
structure IniS (d : IniD) : Prop where
  self : ∃ ar, (d.params.posonlyargs ++ d.params.args).head? = some ar ∧ ar.arg = ("self" : Str)
  ks : d.scope.names.lookup ("super" : Str) = some .globalImplicit
  kc : d.scope.names.lookup ("__class__" : Str) = some .free
  ka : d.scope.names.lookup ("self" : Str) = some .local
  kd : d.scope.kind = .function
  nc : ∀ x ∈ d.scope.names, x.2 ≠ .cell
  co : d.scope.isCoroutine = false
  ge : d.scope.isGenerator = false
  ia : ∀ L f cda cc, interactive (ksEnv d.qual d.scope L f (.ref cda) cc) = false
theorem ini_of {prog : Program} {K : Frag} {d : IniD} (e : iniW K d.cls = d.val) (b : iniB prog K d = true) (S : IniS d) : ∃ cc cda fd, Ini prog K (He.ga K d.cls) (iniF K d.cls) d.qual d.params d.body d.scope cc cda fd := by
  unfold iniW at e
  unfold iniB at b
  cases q : K.lookup (iniF K d.cls) with
  | none => rw [q] at b; cases b
  | some o =>
    obtain ⟨oc, od, dt, osl⟩ := o
    rw [q] at b e
    cases dt with
    | func fd =>
      obtain ⟨n1, n2, n3, n4, n5, n6, n7, n8, n9, n10, n11, n12, n13, n14, n15⟩ := fd
      have e2 : (some (n1, n2, n3, n4, n5, n6, n7.map (·.1), n15) : IniW) = (some (("__init__" : Str), d.qual, d.params, FuncBody.stmts d.body, d.scope, mainGlobals, [("__class__" : Str)], builtinsNs) : IniW) := e
      simp only [Option.some.injEq, Prod.mk.injEq] at e2
      obtain ⟨h1, h2, h3, h4, h5, h6, h7, h8⟩ := e2
      subst h1 h2 h3 h4 h5 h6 h8
      have c3 : (codeIn K n13 d.qual && (isNone n8 && (isNone n9 && (fileB prog K n13 && n7.all fun q => cellB K (He.ga K d.cls) q.2)))) = true := b
      obtain ⟨k1, k2⟩ := He.ba c3
      obtain ⟨k3, k4⟩ := He.ba k2
      obtain ⟨k5, k6⟩ := He.ba k4
      obtain ⟨k7, k8⟩ := He.ba k6
      obtain rfl := isNone_eq k3
      obtain rfl := isNone_eq k5
      obtain ⟨cda, rfl, hfile⟩ := fileB_ok k7
      match n7, h7, k8 with
      | [(x, cc)], h7, k8 =>
        have ex : x = ("__class__" : Str) := by simpa using h7
        subst ex
        have hc : cellB K (He.ga K d.cls) cc = true := by simpa using k8
        exact ⟨cc, cda, _, ⟨⟨oc, od, n10, n11, n12, n14, osl, rfl, q⟩, k1, cellB_ok hc, hfile, S.self, S.ks, S.kc, S.ka, S.kd, S.nc, S.co, S.ge, fun L => S.ia L _ _ _⟩⟩
      | [], h7, _ => simp at h7
      | _ :: _ :: _, h7, _ => simp at h7
    | _ => cases b
end XO
end PySem
set_option Elab.async false
set_option linter.all false
set_option maxRecDepth 100000
set_option maxHeartbeats 4000000
namespace PySem
namespace XO
open PySem.W PySem.Calls PyProof.Rows PySem.HandSPX L2
/-! ### the Hook: HandS's facts, a Bool more, the texts of __init__ -/
structure SaysI (fa : List He.Fa) (fn : List He.DefD) (ts : List He.Tab) (ins : List IniD) (ex : Frag → Bool) (w : World) (K : Frag) : Prop where
  t : He.SaysT fa fn ts w K
  more : ex K = true
  ini : ∀ d ∈ ins, iniW K d.cls = d.val
abbrev AlI : Type := (He.AlT × Bool) × List IniW
def obsI (fa : List He.Fa) (fn : List He.DefD) (ts : List He.Tab) (ins : List IniD) (ex : Frag → Bool) (K : Frag) : AlI := ((He.obsT fa fn ts K, ex K), ins.map fun d => iniW K d.cls)
def valI (fn : List He.DefD) (ts : List He.Tab) (ins : List IniD) (w : World) : AlI := ((He.valT fn ts w, true), ins.map IniD.val)
theorem map_ext_mem {α β : Type} {f g : α → β} : ∀ {l : List α}, l.map f = l.map g → ∀ x ∈ l, f x = g x
  | [], _, x, h => by simp at h
  | a :: l, e, x, h => by
    simp only [List.map_cons, List.cons.injEq] at e
    rcases List.mem_cons.mp h with q | q
    · rw [q]; exact e.1
    · exact map_ext_mem e.2 x q
theorem saysI_of {fa : List He.Fa} {fn : List He.DefD} {ts : List He.Tab} {ins : List IniD} {ex : Frag → Bool} {w : World} {K : Frag} (e : obsI fa fn ts ins ex K = valI fn ts ins w) : SaysI fa fn ts ins ex w K := by
  have e1 : (He.obsT fa fn ts K, ex K) = (He.valT fn ts w, true) := congrArg (fun z : AlI => z.1) e
  have e2 : ins.map (fun d => iniW K d.cls) = ins.map IniD.val := congrArg (fun z : AlI => z.2) e
  exact ⟨congrArg (fun z : He.AlT × Bool => z.1) e1, congrArg (fun z : He.AlT × Bool => z.2) e1, fun d h => map_ext_mem e2 d h⟩
/-! ### the classes -/
def eqV (a b : Option (Option Value)) : Bool := decide (a = b)
/-- a class over the built-in error B -/
def exB (B newId : String) (bmB : List Value) (K : Frag) (C : Addr) : Bool := excInitIn K C bmB newId && ((clsIn K C).any (fun cd => excTail bmB cd.mro && (!cd.mro.isEmpty && cd.hasDict)) && (eqV (findIn K (.ref C) "__setattr__") (some (some (.builtin "object.__setattr__"))) && (decide (subIn K (.ref C) (.type B) = some true) && eqV (nsIn K cStatics "thirdparty.any") (some none))))
theorem exB_ok {B newId i : String} {bmB : List Value} {K : Frag} {C : Addr} (kf : KxsFacts B i) (fb : ExcBaseFacts B newId i bmB) (st : StoreFacts B bmB "object.__setattr__" "object") (h : exB B newId bmB K C = true) : ExC K C B newId i bmB := by
  unfold exB at h
  simp only [Bool.and_eq_true] at h
  obtain ⟨h1, h2, h3, h4, h5⟩ := h
  refine ⟨kf, fb, st, h1, ?_, of_decide_eq_true h3, of_decide_eq_true h4, of_decide_eq_true h5⟩
  cases e : clsIn K C with
  | none => rw [e] at h2; cases h2
  | some cd =>
    rw [e] at h2
    have h2 : (excTail bmB cd.mro && (!cd.mro.isEmpty && cd.hasDict)) = true := h2
    simp only [Bool.and_eq_true, Bool.not_eq_true'] at h2
    exact ⟨cd, rfl, h2.1, h2.2.1, h2.2.2⟩
/-- what every error class has -/
def anB (K : Frag) (C f : Addr) : Bool := keepIn K (.ref C) && (decide (subIn K (.ref C) (.type "BaseException") = some true) && (decide (typeIn K (.ref C) = some (.type "type")) && (eqV (findIn K (.ref C) "__init__") (some (some (.ref f))) && (decide (typeIn K (.ref f) = some (.type "function")) && (fnIn K f && (decide (mroIn K C (.ref C) = some true)
  && (eqV (findIn K (.ref C) "__getattribute__") (some (some (.builtin "BaseException.__getattribute__"))) && (eqV (findIn K (.ref C) "__getattr__") (some none) && (hasDictIn K C && (eqV (findIn K (.ref C) "__class__") (some (some (.builtin "object.__class__"))) && (eqV (specialIn K (.builtin "object.__class__") "__get__") (some (some (.builtin "getset_descriptor.__get__"))) && (decide (takesIn K (.builtin "object.__class__") = some true) && decide (mroIn K C (.type "object") = some true)))))))))))))
structure AnC (K : Frag) (C f : Addr) : Prop where
  kp : keepIn K (.ref C) = true
  exC : subIn K (.ref C) (.type "BaseException") = some true
  tyC : typeIn K (.ref C) = some (.type "type")
  iC : findIn K (.ref C) "__init__" = some (some (.ref f))
  tf : typeIn K (.ref f) = some (.type "function")
  fn : fnIn K f = true
  mC : mroIn K C (.ref C) = some true
  xf : XfC K C
  xc : ExcC K C
theorem anB_ok {K : Frag} {C f : Addr} (h : anB K C f = true) : AnC K C f := by
  unfold anB at h
  simp only [Bool.and_eq_true] at h
  obtain ⟨h1, h2, h3, h4, h5, h6, h7, h8, h9, h10, h11, h12, h13, h14⟩ := h
  have e2 := of_decide_eq_true h2
  have e8 := of_decide_eq_true h8
  have e9 := of_decide_eq_true h9
  exact ⟨h1, e2, of_decide_eq_true h3, of_decide_eq_true h4, of_decide_eq_true h5, h6, of_decide_eq_true h7, ⟨e8, e9, e2, h10⟩, ⟨e8, e9, e2, h10, of_decide_eq_true h11, of_decide_eq_true h12, of_decide_eq_true h13, of_decide_eq_true h14⟩⟩
end XO
end PySem
set_option Elab.async false
set_option linter.all false
set_option maxRecDepth 100000
set_option maxHeartbeats 4000000
namespace PySem
namespace XO
open PySem.W PySem.Calls PyProof.Rows PySem.HandSPX L2
section
variable {prog : Program} {w : World} {K : Frag} {mg : Str → Option Value} {base : Heap}
variable {C D f f2 cc cda : Addr} {qual : Str} {ps : Arguments} {scope : Scope} {fd : FuncData} {B newId i : String} {bmB : List Value}
/-- def __init__(self, a, b): super().__init__("N"); self.a = a; self.b = b -/
theorem sub2_ok (EC : ExC K C B newId i bmB) {a b : Str} (na : findIn K (.ref C) a = some none) (nb : findIn K (.ref C) b = some none) {p0 p1 p2 p3 p4 r0 q0 q1 q2 r1 q3 q4 q5 r2 : Pos} {N : Str} {j0 n : Nat} (T : Ini prog K C f qual ps [.Expr (supC p0 p1 p2 p3 (.Constant (.str N) j0 r0)) p4, setS a q0 q1 q2 (.Name a r1), setS b q3 q4 q5 (.Name b r2)] scope cc cda fd) (Md : Mod K mg base) (hms : mg "super" = none) (htop : (prog.main.scope.names.lookup ("super" : Str)).isSome = false)
    (hm : ks_superIn K C C "__init__" = some (some (.ref f2))) (ht : typeIn K (.ref f2) = some (.type "function")) (hfn : fnIn K f2 = true) (hsub : mroIn K C (.ref C) = some true) (kal : scope.names.lookup a = some .local) (kbl : scope.names.lookup b = some .local) (had : (a == ("__debug__" : Str)) = false) (hbd : (b == ("__debug__" : Str)) = false) (has : a ≠ "self") (hbs : b ≠ "self") (hab : a ≠ b)
    {pl : Addr → Sem Bool} (hev : ∀ L, eval (supC p0 p1 p2 p3 (.Constant (.str N) j0 r0)) (ksEnv qual scope L f (.ref cda) cc) = (do
      let ov ← attributeBase (.Call (.Name "super" p0) [] [] p1) "__init__" (ksEnv qual scope L f (.ref cda) cc) (eval (.Call (.Name "super" p0) [] [] p1) (ksEnv qual scope L f (.ref cda) cc))
      standAt p2.atName
      let (f2, first) ← holding [ov] (getMethod ov "__init__" (pl L))
      callWith p3 f2 first (backTo p3 (starEach [.Constant (.str N) j0 r0] (ksEnv qual scope L f (.ref cda) cc))) []))
    (hbind : ∀ s x v u, BindsTo s fd ⟨[x, v, u], []⟩ [("self", x), (a, v), (b, u)]) (BO : ∀ v, InitOk prog w K mg base n C f2 [v] (fun mA => mA = fun (y : Str) => if y = "code" then some v else none)) (u v : Value) :
    InitOk prog w K mg base (n + 1) C f [u, v] (fun mA => ∃ t, mA = fun (y : Str) => if y = b then some v else if y = a then some u else if y = "code" then some (.str N t) else none) := by
  have eab : (a == b) = false := by simpa using hab
  have lb : ∀ x : Value, List.lookup b [(b, v), (a, u), (("self" : Str), x)] = some v := fun x => by simp [List.lookup]
  have la : ∀ x : Value, List.lookup a [(b, v), (a, u), (("self" : Str), x)] = some u := fun x => by simp [List.lookup, eab]
  have ls : ∀ x : Value, List.lookup ("self" : Str) [(b, v), (a, u), (("self" : Str), x)] = some x := fun x => by
    have h1 : (("self" : Str) == a) = false := by simpa using fun e => has e.symm
    have h2 : (("self" : Str) == b) = false := by simpa using fun e => hbs e.symm
    simp [List.lookup, h1, h2]
  refine sub_init EC (P := fun v => ∃ t, v = .str N t) (bs := fun x => [("self", x), (a, u), (b, v)]) T Md hms htop hm ht hfn hsub (fun s x => hbind s x u v) (fun x y hy => ?_) (fun x => ls x) (fun A L x => sim_str) (fun L => rfl) hev (fun L => rfl) (fun v _ => BO v) ?_
  · have hy' : y = (("self" : Str), x) ∨ y = (a, u) ∨ y = (b, v) := by simpa using hy
    rcases hy' with e | e | e
    · rw [e]; exact T.ka
    · rw [e]; exact kal
    · rw [e]; exact kbl
  · intro A E Q L x t1 dx vv hh g d t os ⟨tv, ev⟩ X hn hx n1 n2 n3 nK hns hq
    subst ev
    refine set_more EC na (P := (· = u)) X hn hx hns (nl := ["code"]) (Within.cons "code" (.str N tv) Within.nil) (by decide) (sim_name T.kd kal (la (.ref x)) had) (sim_name T.kd T.ka (ls (.ref x)) (by decide)) rfl fun h1 tk1 v1 hv1 k1 ns1 => ?_
    subst hv1
    have X1 : K.In h1 := fun c o z => k1 c o (fun e => by rw [e, nK] at z; cases z) (X c o z)
    have hn1 : h1.Ns L (fun y => List.lookup y [(b, v), (a, v1), (("self" : Str), Value.ref x)]) := hn.at fun o z => k1 _ o n1.symm z
    refine set_more EC nb (P := (· = v)) X1 hn1 (k1 _ _ n3.symm hx) ns1 (nl := [a, "code"]) (Within.cons a v1 (Within.cons "code" (.str N tv) Within.nil)) (by show 2 ≤ 1000; decide) (sim_name T.kd kbl (lb (.ref x)) hbd) (sim_name T.kd T.ka (ls (.ref x)) (by decide)) rfl fun h2 tk2 v2 hv2 k2 ns2 => ?_
    subst hv2
    exact wpAny_execs_nil (hq h2 tk2 _ ⟨tv, rfl⟩ (fun c o hc z => k2 c o hc (k1 c o hc z)) ns2)
/-- an error class, out of its __init__ -/
theorem err_of (EC : ExC K C B newId i bmB) (AC : AnC K C f) {code : Str} {names : List Str} {n : Nat} (hz : names.length ≤ 1000)
    (IO : Mod K mg base → ∀ us : List Value, us.length = names.length → InitOk prog w K mg base n C f us (fun mA => ∃ t, ∀ y, mA y = List.lookup y ((("code" : Str), Value.str code t) :: names.zip us))) : Err prog w K mg base (n + 1) C code names :=
  ⟨AC.kp, AC.exC, AC.tyC, fun Md us hl A R s bk hlim hroom hq => made EC Md AC.iC AC.tf (by rw [hl, sizeLine_eq]; omega) (IO Md us hl) bk hlim hroom fun h' tk e d mA ⟨t, hm⟩ M => hq h' tk e d mA t hm M⟩
theorem look1 {a : Str} {u c : Value} (ha : a ≠ "code") (y : Str) : (if y = a then some u else if y = "code" then some c else none) = List.lookup y [(("code" : Str), c), (a, u)] := by
  simp only [List.lookup_cons, List.lookup_nil]
  by_cases h1 : y = a
  · subst h1
    have : (y == ("code" : Str)) = false := by simpa using ha
    simp [this]
  · by_cases h2 : y = "code"
    · subst h2; simp [h1]
    · have e1 : (y == ("code" : Str)) = false := by simpa using h2
      have e2 : (y == a) = false := by simpa using h1
      simp [h1, h2, e1, e2]
theorem look0 {c : Value} (y : Str) : (if y = "code" then some c else none) = List.lookup y [(("code" : Str), c)] := by
  simp only [List.lookup_cons, List.lookup_nil]
  by_cases h2 : y = "code"
  · subst h2; simp
  · have e1 : (y == ("code" : Str)) = false := by simpa using h2
    simp [h2, e1]
end
end XO
end PySem
set_option Elab.async false
set_option linter.all false
set_option maxRecDepth 100000
set_option maxHeartbeats 4000000
namespace PySem
namespace XO
open PySem.W PySem.Calls PyProof.Rows PySem.HandSPX L2
/-- a built-in error beneath the text's classes -/
structure Lib (B newId i : String) (bmB : List Value) : Prop where
  kf : KxsFacts B i
  fb : ExcBaseFacts B newId i bmB
  st : StoreFacts B bmB "object.__setattr__" "object"
abbrev bmV : List Value := [.type "ValueError", .type "Exception", .type "BaseException", .type "object"]
abbrev bmL : List Value := [.type "LookupError", .type "Exception", .type "BaseException", .type "object"]
theorem lib_V : Lib "ValueError" "ValueError.__new__" "ValueError.__init__" bmV := ⟨kxs_ValueError, F.excBase_ValueError, F.store_ValueError⟩
theorem lib_L : Lib "LookupError" "LookupError.__new__" "LookupError.__init__" bmL := ⟨kxs_LookupError, F.excBase_LookupError, F.store_LookupError⟩
/-- a class, seen: fields that it does not have itself -/
def clsB (prog : Program) (B newId : String) (bmB : List Value) (K : Frag) (d : IniD) (fs : List Str) : Bool :=
  exB B newId bmB K (He.ga K d.cls) && (anB K (He.ga K d.cls) (iniF K d.cls) && (iniB prog K d && fs.all fun f => eqV (findIn K (.ref (He.ga K d.cls)) f) (some none)))
/-- a class c over D over a built-in -/
def overB (i : String) (K : Frag) (c D : Str) : Bool :=
  eqV (ks_superIn K (He.ga K c) (He.ga K c) "__init__") (some (some (.ref (iniF K D)))) && (eqV (ks_superIn K (He.ga K c) (He.ga K D) "__init__") (some (some (.builtin i))) && decide (mroIn K (He.ga K c) (.ref (He.ga K D)) = some true))
theorem eqV_ok {a b : Option (Option Value)} (h : eqV a b = true) : a = b := of_decide_eq_true h
structure ClsO (prog : Program) (B newId i : String) (bmB : List Value) (K : Frag) (d : IniD) (fs : List Str) : Prop where
  ec : ExC K (He.ga K d.cls) B newId i bmB
  an : AnC K (He.ga K d.cls) (iniF K d.cls)
  ini : ∃ cc cda fd, Ini prog K (He.ga K d.cls) (iniF K d.cls) d.qual d.params d.body d.scope cc cda fd
  na : ∀ f ∈ fs, findIn K (.ref (He.ga K d.cls)) f = some none
theorem clsO_of {prog : Program} {B newId i : String} {bmB : List Value} {K : Frag} {d : IniD} {fs : List Str} (lb : Lib B newId i bmB) (S : IniS d) (e : iniW K d.cls = d.val) (h : clsB prog B newId bmB K d fs = true) : ClsO prog B newId i bmB K d fs := by
  unfold clsB at h
  simp only [Bool.and_eq_true, List.all_eq_true] at h
  obtain ⟨h1, h2, h3, h4⟩ := h
  exact ⟨exB_ok lb.kf lb.fb lb.st h1, anB_ok h2, ini_of e h3 S, fun f hf => eqV_ok (h4 f hf)⟩
section
variable {prog : Program} {w : World} {K : Frag} {mg : Str → Option Value} {base : Heap} {B newId i : String} {bmB : List Value}
abbrev HevT (d : IniD) (p0 p1 p2 p3 : Pos) (e : Expr) : Prop := ∃ pl : Addr → Addr → Addr → Addr → Sem Bool, ∀ L f cda cc, eval (supC p0 p1 p2 p3 e) (ksEnv d.qual d.scope L f (.ref cda) cc) = (do
      let ov ← attributeBase (.Call (.Name "super" p0) [] [] p1) "__init__" (ksEnv d.qual d.scope L f (.ref cda) cc) (eval (.Call (.Name "super" p0) [] [] p1) (ksEnv d.qual d.scope L f (.ref cda) cc))
      standAt p2.atName
      let (f2, first) ← holding [ov] (getMethod ov "__init__" (pl L f cda cc))
      callWith p3 f2 first (backTo p3 (starEach [e] (ksEnv d.qual d.scope L f (.ref cda) cc))) [])
/-- the text of a base class: def __init__(self, code): super().__init__(code); self.code = code -/
structure BaseT (d : IniD) : Prop where
  body : ∃ p0 p1 p2 p3 p4 q0 q1 q2 r0 r1, d.body = [.Expr (supC p0 p1 p2 p3 (.Name "code" r0)) p4, setS "code" q0 q1 q2 (.Name "code" r1)] ∧ HevT d p0 p1 p2 p3 (.Name "code" r0)
  kc : d.scope.names.lookup ("code" : Str) = some .local
  bd : ∀ doc pm an cdv ct cc x v, bindArgs (ksFn "__init__" d.qual d.params d.body d.scope .none .none doc pm an cdv ct cc) ⟨[x, v], []⟩ = pure [(("self" : Str), x), (("code" : Str), v)]
structure Sub1T (d : IniD) (N a : Str) : Prop where
  body : ∃ p0 p1 p2 p3 p4 q0 q1 q2 j0 r0 r1, d.body = [.Expr (supC p0 p1 p2 p3 (.Constant (.str N) j0 r0)) p4, setS a q0 q1 q2 (.Name a r1)] ∧ HevT d p0 p1 p2 p3 (.Constant (.str N) j0 r0)
  ka : d.scope.names.lookup a = some .local
  nm : (a == ("__debug__" : Str)) = false ∧ a ≠ "self" ∧ a ≠ "code"
  bd : ∀ doc pm an cdv ct cc x v, bindArgs (ksFn "__init__" d.qual d.params d.body d.scope .none .none doc pm an cdv ct cc) ⟨[x, v], []⟩ = pure [(("self" : Str), x), (a, v)]
structure Sub2T (d : IniD) (N a b : Str) : Prop where
  body : ∃ p0 p1 p2 p3 p4 q0 q1 q2 q3 q4 q5 j0 r0 r1 r2, d.body = [.Expr (supC p0 p1 p2 p3 (.Constant (.str N) j0 r0)) p4, setS a q0 q1 q2 (.Name a r1), setS b q3 q4 q5 (.Name b r2)] ∧ HevT d p0 p1 p2 p3 (.Constant (.str N) j0 r0)
  ka : d.scope.names.lookup a = some .local
  kb : d.scope.names.lookup b = some .local
  nm : (a == ("__debug__" : Str)) = false ∧ a ≠ "self" ∧ a ≠ "code"
  nn : (b == ("__debug__" : Str)) = false ∧ b ≠ "self" ∧ b ≠ "code"
  ab : a ≠ b
  bd : ∀ doc pm an cdv ct cc x v u, bindArgs (ksFn "__init__" d.qual d.params d.body d.scope .none .none doc pm an cdv ct cc) ⟨[x, v, u], []⟩ = pure [(("self" : Str), x), (a, v), (b, u)]
structure TopO (prog : Program) (mg : Str → Option Value) : Prop where
  sup : mg "super" = none
  top : (prog.main.scope.names.lookup ("super" : Str)).isSome = false
variable {d dD : IniD} {fs gs : List Str} {newB iB : String} {bB : List Value}
theorem overB_ok {c D : Str} (h : overB i K c D = true) : ks_superIn K (He.ga K c) (He.ga K c) "__init__" = some (some (.ref (iniF K D))) ∧ ks_superIn K (He.ga K c) (He.ga K D) "__init__" = some (some (.builtin i)) ∧ mroIn K (He.ga K c) (.ref (He.ga K D)) = some true := by
  unfold overB at h
  simp only [Bool.and_eq_true] at h
  exact ⟨eqV_ok h.1, eqV_ok h.2.1, of_decide_eq_true h.2.2⟩
/-- the base class's __init__, for the class c -/
theorem base_in (T : TopO prog mg) (O : ClsO prog B newId i bmB K d fs) (OD : ClsO prog B newId i bmB K dD gs) (TD : BaseT dD) (hc : ("code" : Str) ∈ fs) (ov : overB i K d.cls dD.cls = true) (Md : Mod K mg base) (v : Value) : InitOk prog w K mg base 0 (He.ga K d.cls) (iniF K dD.cls) [v] (fun mA => mA = fun (y : Str) => if y = "code" then some v else none) := by
  obtain ⟨h1, h2, h3⟩ := overB_ok ov
  obtain ⟨cc, cda, fd, I⟩ := OD.ini
  obtain ⟨p0, p1, p2, p3, p4, q0, q1, q2, r0, r1, eb, pl, hev⟩ := TD.body
  have hfd := I.fn
  rw [eb] at I
  obtain ⟨cdD, hcd, _⟩ := OD.ec.cd
  refine base_ok O.ec (O.na _ hc) I Md T.sup T.top h2 hcd h3 TD.kc (fun L => hev L _ _ _) (fun s x v => ?_) v
  obtain ⟨oc, od, doc, pm, an, ct, osl, rfl, _⟩ := hfd
  exact .of_eq (TD.bd _ _ _ _ _ _ _ _)
theorem err_sub1 {N a : Str} (T : TopO prog mg) (O : ClsO prog B newId i bmB K d fs) (OD : ClsO prog B newId i bmB K dD gs) (TD : BaseT dD) (TS : Sub1T d N a) (hc : ("code" : Str) ∈ fs) (ha : a ∈ fs) (ov : overB i K d.cls dD.cls = true) : Err prog w K mg base 2 (He.ga K d.cls) N [a] := by
  obtain ⟨h1, h2, h3⟩ := overB_ok ov
  obtain ⟨cc, cda, fd, I⟩ := O.ini
  obtain ⟨p0, p1, p2, p3, p4, q0, q1, q2, j0, r0, r1, eb, pl, hev⟩ := TS.body
  have hfd := I.fn
  rw [eb] at I
  refine err_of O.ec O.an (by show 1 ≤ 1000; decide) fun Md us hl => ?_
  match us, hl with
  | [u], _ =>
    have k := sub1_ok (n := 0) (w := w) O.ec (O.na _ ha) I Md T.sup T.top h1 OD.an.tf OD.an.fn O.an.mC TS.ka TS.nm.1 TS.nm.2.1 (fun L => hev L _ _ _) (fun s x v => ?_) (fun v => base_in (w := w) T O OD TD hc ov Md v) u
    · exact fun A R s x t0 a b c e f g => k A R s x t0 a b c e f fun h' tk dx mA ⟨t, ht⟩ => g h' tk dx mA ⟨t, fun y => by rw [ht]; exact look1 TS.nm.2.2 y⟩
    · obtain ⟨oc, od, doc, pm, an, ct, osl, rfl, _⟩ := hfd
      exact .of_eq (TS.bd _ _ _ _ _ _ _ _)
theorem look2 {a b : Str} {u v c : Value} (ha : a ≠ "code") (hb : b ≠ "code") (hab : a ≠ b) (y : Str) : (if y = b then some v else if y = a then some u else if y = "code" then some c else none) = List.lookup y [(("code" : Str), c), (a, u), (b, v)] := by
  simp only [List.lookup_cons, List.lookup_nil]
  by_cases h2 : y = "code"
  · subst h2
    have e1 : ¬ ("code" : Str) = b := fun e => hb e.symm
    have e2 : ¬ ("code" : Str) = a := fun e => ha e.symm
    simp [e1, e2]
  · have k2 : (y == ("code" : Str)) = false := by simpa using h2
    by_cases h1 : y = a
    · subst h1
      simp [k2, hab]
    · have k1 : (y == a) = false := by simpa using h1
      by_cases h3 : y = b
      · subst h3; simp [k2, k1]
      · have k3 : (y == b) = false := by simpa using h3
        simp [h1, h2, h3, k1, k2, k3]
theorem err_sub2 {N a b : Str} (T : TopO prog mg) (O : ClsO prog B newId i bmB K d fs) (OD : ClsO prog B newId i bmB K dD gs) (TD : BaseT dD) (TS : Sub2T d N a b) (hc : ("code" : Str) ∈ fs) (ha : a ∈ fs) (hb : b ∈ fs) (ov : overB i K d.cls dD.cls = true) : Err prog w K mg base 2 (He.ga K d.cls) N [a, b] := by
  obtain ⟨h1, h2, h3⟩ := overB_ok ov
  obtain ⟨cc, cda, fd, I⟩ := O.ini
  obtain ⟨p0, p1, p2, p3, p4, q0, q1, q2, q3, q4, q5, j0, r0, r1, r2, eb, pl, hev⟩ := TS.body
  have hfd := I.fn
  rw [eb] at I
  refine err_of O.ec O.an (by show 2 ≤ 1000; decide) fun Md us hl => ?_
  match us, hl with
  | [u, v], _ =>
    have k := sub2_ok (n := 0) (w := w) O.ec (O.na _ ha) (O.na _ hb) I Md T.sup T.top h1 OD.an.tf OD.an.fn O.an.mC TS.ka TS.kb TS.nm.1 TS.nn.1 TS.nm.2.1 TS.nn.2.1 TS.ab (fun L => hev L _ _ _) (fun s x v u => ?_) (fun v => base_in (w := w) T O OD TD hc ov Md v) u v
    · exact fun A R s x t0 a b c e f g => k A R s x t0 a b c e f fun h' tk dx mA ⟨t, ht⟩ => g h' tk dx mA ⟨t, fun y => by rw [ht]; exact look2 TS.nm.2.2 TS.nn.2.2 TS.ab y⟩
    · obtain ⟨oc, od, doc, pm, an, ct, osl, rfl, _⟩ := hfd
      exact .of_eq (TS.bd _ _ _ _ _ _ _ _ _)
end
end XO
end PySem
set_option Elab.async false
set_option linter.all false
set_option maxRecDepth 100000
set_option maxHeartbeats 4000000
/-! the Hook with tables of code objects -/
namespace PySem
namespace XO
open PySem.W PySem.Calls PyProof.Rows PySem.HandSPX L2
structure SaysJ (fa : List He.Fa) (fn : List He.DefD) (ts : List He.Tab) (ins : List IniD) (tf : List He.Defn) (ex : Frag → Bool) (w : World) (h : Heap) (K : Frag) : Prop where
  i : SaysI fa fn ts ins ex w K
  hd : ∀ p ∈ tf, codeHdIn K (He.cT K p).1 (He.cT K p).2 = true
  out : ∀ p ∈ tf, K.lookup (He.cT K p).2 = none
  empty : ∀ p ∈ tf, h.get? (He.cT K p).2 = some { cls := .none, data := .fields #[] }
end XO
end PySem
namespace L2
open PySem PySem.Spec PyProof.Rows
section
variable {P : Program} {w : World} {K : PySem.W.Frag} {mg : Str → Option Value} {base : Heap}
/-- a def that raises nothing, its code object known -/
theorem Fun.okC {p : He.Defn} {x qual : Str} {st : Stmt} {fd : FuncData} {N ps : List Str} {k : Nat} {sp : Sp} (F : Fun K x qual st (He.fAd K p) fd) (S : FnScope N ps (defScope st)) (len : ∀ vs H Q E, sp vs H Q E → vs.length = ps.length)
    (hbody : ∀ (A : Around) (outer : List Env) (s : Shared) (H : Hp) (vs : List V) (Q : VK) (E : XK), Room k (A.deeper (envOfC qual (defScope st) s.heap.objs.size (He.fAd K p) (.ref (He.codeOf K p)))) → sp vs H Q E →
      ∃ t, PSs (cxOf CX0 P w K mg base N qual (defScope st) (He.fAd K p) (.ref (He.codeOf K p)) A outer s H E).nox (defBody st) t ∧ t { nx := fun _ H' => Q .non H', rt := Q } (start N vs) H) : FnOk P w K mg base CX0 (k + 1) (He.fAd K p) fd ps sp := by
  obtain ⟨oc, od, kV, doc, pm, an, cdv, ct, osl, rfl, lk, hcd⟩ := F.ex
  obtain ⟨c, rfl⟩ := He.codeIn_ref hcd
  have e : He.codeOf K p = c := He.codeOf_eq lk rfl
  refine fn_of lk hcd S len fun A outer s H vs Q E hr hsp => ?_
  rw [← e] at hr ⊢
  obtain ⟨t, h, q⟩ := hbody A outer s H vs Q E hr hsp
  exact ⟨t, h.nox, q⟩
end
end L2
set_option Elab.async false
set_option linter.all false
set_option maxRecDepth 100000
set_option maxHeartbeats 4000000
/-! the Hook with tables of code objects -/
namespace PySem
namespace XO
open PySem.W PySem.Calls PyProof.Rows PySem.HandSPX L2
/-- addresses level by level, no search for what was met -/
def levN (g : Addr → Option Obj) : Nat → List Addr → List Addr
  | 0, f => f
  | n + 1, f => f ++ levN g n (f.flatMap fun a => match g a with
    | some o => (He.refsD o).filter fun b => !(b == mainGlobals || b == cStatics)
    | none => [])
def asN (g : Addr → Option Obj) (n : Nat) : List Addr := levN g n [mainGlobals, cStatics]
abbrev AlN : Type := AlI × Bool
def obsN (n : Nat) (fa : List He.Fa) (fn : List He.DefD) (ts : List He.Tab) (ins : List IniD) (tf : List He.Defn) (ex : Frag → Bool) (g : Addr → Option Obj) : AlN := (obsI fa fn ts ins ex (He.frT g (asN g n)), He.tabsB g tf (He.frT g (asN g n)))
theorem saysN_of {n : Nat} {fa : List He.Fa} {fn : List He.DefD} {ts : List He.Tab} {ins : List IniD} {tf : List He.Defn} {ex : Frag → Bool} {w : World} {h : Heap} (e : obsN n fa fn ts ins tf ex h.get? = (valI fn ts ins w, true)) : SaysJ fa fn ts ins tf ex w h (He.frT h.get? (asN h.get? n)) := by
  have e1 : obsI fa fn ts ins ex (He.frT h.get? (asN h.get? n)) = valI fn ts ins w := congrArg (fun z : AlN => z.1) e
  have h2 : He.tabsB h.get? tf (He.frT h.get? (asN h.get? n)) = true := congrArg (fun z : AlN => z.2) e
  have key : ∀ p ∈ tf, codeHdIn (He.frT h.get? (asN h.get? n)) (He.cT (He.frT h.get? (asN h.get? n)) p).1 (He.cT (He.frT h.get? (asN h.get? n)) p).2 = true ∧ ∃ o, h.get? (He.cT (He.frT h.get? (asN h.get? n)) p).2 = some o ∧ He.emptyTab o = true := fun p hp => by
    have h3 := List.all_eq_true.mp h2 p hp
    rw [Bool.and_eq_true] at h3
    obtain ⟨h3, h4⟩ := h3
    refine ⟨h3, ?_⟩
    cases q : h.get? (He.cT (He.frT h.get? (asN h.get? n)) p).2 with
    | none =>
      rw [q] at h4
      cases h4
    | some o =>
      rw [q] at h4
      exact ⟨o, rfl, h4⟩
  exact ⟨saysI_of e1, fun p hp => (key p hp).1, fun p hp => by
    obtain ⟨_, o, q, z⟩ := key p hp
    exact He.frT_none q z, fun p hp => by
    obtain ⟨_, o, q, z⟩ := key p hp
    rw [q, He.emptyTab_eq z]⟩
def hookN (n : Nat) (fa : List He.Fa) (fn : List He.DefD) (ts : List He.Tab) (ins : List IniD) (tf : List He.Defn) (ex : Frag → Bool) : PySem.W.Hook where
  α := AlN
  obs := fun s => obsN n fa fn ts ins tf ex s.heap.get?
  val := fun w => (valI fn ts ins w, true)
  says := fun w h => ∃ K : Frag, K.In h ∧ SaysJ fa fn ts ins tf ex w h K
  of := fun _ _ e => ⟨_, He.frT_in, saysN_of e⟩
  keeps := fun _ _ _ ⟨K, hK, c⟩ k => ⟨K, PySem.W.Frag.In.keeps hK k, ⟨c.i, c.hd, c.out, fun p hp => k _ _ (c.empty p hp)⟩⟩
theorem obsN_eq {n : Nat} {fa : List He.Fa} {fn : List He.DefD} {ts : List He.Tab} {ins : List IniD} {tf : List He.Defn} {ex : Frag → Bool} {g : Addr → Option Obj} {s : Shared} (h : ∀ a, g a = s.heap.get? a) : obsN n fa fn ts ins tf ex g = (hookN n fa fn ts ins tf ex).obs s := by
  have e : g = s.heap.get? := funext h
  rw [e] <;> rfl
end XO
end PySem
set_option Elab.async false
set_option linter.all false
set_option maxRecDepth 100000
set_option maxHeartbeats 4000000
namespace LW
open PySem PySem.Spec PyProof.Rows L2 EV
def topS (i : Nat) : Stmt := PySem.Challenge.pw_oncethrough_k16_ways_hold.main.body.getD i (.Pass ⟨0, 0, 0, 0⟩)
/-- a def of the text, as a caller takes it -/
structure Gf (K : PySem.W.Frag) (mg : Str → Option Value) (x : Str) (f : Addr) (fd : FuncData) (ps : List Str) : Prop where
  m : mg x = some (.ref f)
  k : PySem.W.keepIn K (.ref f) = true
  b : Binds K fd ps []
abbrev s_box : Stmt := topS 68
abbrev N_box : List Str := ["_law_script", "_law_mixed_here", "_law_cell"]
theorem sc_box : FnScope N_box ["_law_script"] (defScope s_box) := ⟨rfl, rfl, rfl, by decide +kernel, rfl, by decide +kernel, by decide +kernel⟩
abbrev s_pull : Stmt := topS 69
abbrev N_pull : List Str := ["_law_box_here", "_law_many", "_law_cell", "_law_digit", "_law_twice"]
theorem sc_pull : FnScope N_pull ["_law_box_here", "_law_many"] (defScope s_pull) := ⟨rfl, rfl, rfl, by decide +kernel, rfl, by decide +kernel, by decide +kernel⟩
section
variable {P : Program} {w : World} {K : PySem.W.Frag} {mg : Str → Option Value} {base : Heap}
def spBox (K : PySem.W.Frag) : Sp := fun vs H Q _ => ∃ (a : Addr) (ns : List Int), vs = [.ref a] ∧ SqL K H a (ns.map V.int) ∧
  ∀ (b l : Addr) (m : Int) (ms : List Int) (H' : Hp), Same H H' → H b = none → H' b = some (.lst [.ref l, .int 0, .int 0, .int m, .int 0]) → H' l = some (.lst (ms.map V.int)) → l ≠ b → 0 ≤ m → m < 2147483587 → Q (.ref b) H'
theorem same_upd {H : Hp} {p : Addr} {o : HO} (h : H p = none) : Same H (upd H p o) := fun b x e => by
  rw [upd_ne (ne_of_none e h)]
  exact e
theorem cut_ints (ns : List Int) (lo hi : Option Int) : ∃ ms : List Int, cutV (ns.map V.int) lo hi = ms.map V.int := by
  unfold cutV
  exact ⟨_, by rw [← List.map_drop, ← List.map_take]⟩
theorem ok_box {f : Addr} {fd : FuncData} (F : Fun K "_law_box" "_law_box" s_box f fd) (mi : mg "int" = none) (ml : mg "list" = none) : FnOk P w K mg base CX0 1 f fd ["_law_script"] (spBox K) := by
  refine F.ok sc_box (fun vs H Q E h => ?_) (fun cdv A outer s H vs Q E hr h => ?_)
  · obtain ⟨a, ns, rfl, _⟩ := h
    rfl
  · obtain ⟨a, ns, rfl, hS, q⟩ := h
    refine ⟨_, pss_cons (ps_set (i := 1) sc_box.nd rfl (.inl rfl) pe_int)
      (pss_cons (ps_for PassesOwn.never rfl (pi_list (pe_slice sl_list (pv 0) po_none (po_some pe_int))) (pg_name (i := 2) sc_box.nd rfl (.inl rfl))
        (pss_one (ps_set (i := 1) sc_box.nd rfl (.inl rfl) (pe_op op_mod (pe_callTy call_int1 rfl mi boot_int (pa_cons (pe_op op_add (pe_op op_add (pe_op op_mul (pv 1) pe_int) (pe_op op_mul (pe_op op_mod (pe_callTy call_int1 rfl mi boot_int (pa_cons (pv 2) pa_nil)) pe_int) pe_int)) pe_int) pa_nil)) pe_int))))
      (pss_one (ps_ret (pe_lst (pa_cons (pe_callTy call_list_of rfl ml boot_list (pa_cons (pe_slice sl_list (pv 0) po_none (po_some pe_int)) pa_nil)) (pa_cons pe_int (pa_cons pe_int (pa_cons (pv 1) (pa_cons pe_int pa_nil))))))))), ?_⟩
    obtain ⟨ms, ems⟩ := cut_ints ns none (some 63)
    refine ⟨.ref a, rfl, 63, rfl, a, ns.map V.int, rfl, hS, fun c nc => ?_⟩
    rw [ems]
    have s1 : Same H (upd H c (.lst (ms.map V.int))) := same_upd nc
    refine ⟨c, rfl, ⟨_, .inl (.inl upd_same)⟩, for_list (K := K) (a := c) (xs := ms.map V.int) (fun i σ H' => ∃ (y2 : Option V) (m : Int), σ = [some (.ref a), some (.int m), y2] ∧ 0 ≤ m ∧ m < 2147483587 ∧ H' = upd H c (.lst (ms.map V.int)))
      ⟨none, 12022, rfl, by decide, by decide, rfl⟩ (fun i σ H' _ ⟨_, _, _, _, _, e⟩ => by rw [e]; exact .inl (.inl upd_same)) ?_ ?_⟩
    · rintro i x σ H' hx ⟨y2, m, rfl, m0, m1, rfl⟩
      obtain ⟨z, rfl⟩ : ∃ z, x = V.int z := by
        rw [List.getElem?_map] at hx
        cases e : ms[i]? with
        | none => rw [e] at hx; cases hx
        | some z => rw [e] at hx; exact ⟨z, (Option.some.inj hx).symm⟩
      refine ⟨.int m, rfl, _, _, rfl, rfl, .inr ⟨by decide, by decide⟩, .int z, rfl, .inl ⟨z, rfl, _, _, rfl, rfl, (by decide : (0 : Int) < 1000003), _, _, rfl, rfl, .inr ⟨by decide, by decide⟩, _, _, rfl, rfl, _, _, rfl, rfl, .inl ⟨_, rfl, _, _, rfl, rfl, (by decide : (0 : Int) < 2147483579), ?_⟩⟩⟩
      refine ⟨some (.int z), _, rfl, Int.emod_nonneg _ (by decide), Int.lt_trans (Int.emod_lt_of_pos _ (by decide)) (by decide), rfl⟩
    · rintro σ H' ⟨y2, m, rfl, m0, m1, rfl⟩
      refine ⟨.ref a, rfl, 63, rfl, a, ns.map V.int, rfl, s1.seq hS, fun d nd => ?_⟩
      rw [ems]
      refine ⟨d, _, rfl, .inl (.inl (.inl upd_same)), fun l nl => ?_⟩
      have s2 := same_upd (o := .lst (ms.map V.int)) nd
      have s3 := same_upd (o := .lst (ms.map V.int)) nl
      refine ⟨.int m, rfl, (by show 5 ≤ sizeLine; decide), fun b nb => ?_⟩
      have s4 := same_upd (o := .lst [.ref l, .int 0, .int 0, .int m, .int 0]) nb
      have nlb : l ≠ b := fun e => by rw [← e, upd_same] at nb; cases nb
      have sA := ((s1.trans s2).trans s3)
      exact q b l m ms _ (sA.trans s4) (sA.free nb) upd_same (by rw [upd_ne nlb, upd_same]) nlb m0 m1
end
end LW
set_option Elab.async false
set_option linter.all false
set_option maxRecDepth 100000
set_option maxHeartbeats 4000000
namespace LW
open PySem PySem.Spec PyProof.Rows L2 EV
abbrev bx (l : Addr) (i r m c : Int) : HO := .lst [.ref l, .int i, .int r, .int m, .int c]
theorem at0 {l : Addr} {i r m c : Int} : atI [V.ref l, .int i, .int r, .int m, .int c] 0 = some (.ref l) := rfl
theorem at1 {l : Addr} {i r m c : Int} : atI [V.ref l, .int i, .int r, .int m, .int c] 1 = some (.int i) := rfl
theorem at2 {l : Addr} {i r m c : Int} : atI [V.ref l, .int i, .int r, .int m, .int c] 2 = some (.int r) := rfl
theorem at3 {l : Addr} {i r m c : Int} : atI [V.ref l, .int i, .int r, .int m, .int c] 3 = some (.int m) := rfl
theorem at4 {l : Addr} {i r m c : Int} : atI [V.ref l, .int i, .int r, .int m, .int c] 4 = some (.int c) := rfl
def pullS : DSp := fun ds O Q _ => ∃ n : Int, ds = [.int n] ∧ 0 < n ∧ n < 1073741824 ∧ ∀ k, 0 ≤ k → k < n → Q (.int k) O
section
variable {P : Program} {w : World} {K : PySem.W.Frag} {mg : Str → Option Value} {base : Heap}
theorem ok_pull {f : Addr} {fd : FuncData} (F : Fun K "_law_pull" "_law_pull" s_pull f fd) (mi : mg "int" = none) (ml : mg "len" = none) (ma : mg "abs" = none) : FnOk P w K mg base CX0 1 f fd ["_law_box_here", "_law_many"] (spB K pullS) := by
  refine F.ok sc_pull (fun vs H Q E ⟨b, l, T, ws, G, O, ds, ev, g, r, Q0, E0, h0, _⟩ => ?_) (fun cdv A outer s H vs Q E hr ⟨b, l, T, ws, G, O, ds, ev, g, r, Q0, E0, h0, hq, hx⟩ => ?_)
  · obtain ⟨n, rfl, _⟩ := h0
    rw [ev, List.length_cons, r.length]
    rfl
  · obtain ⟨n, rfl, n0, n1, h0⟩ := h0
    subst ev
    cases r with
    | cons r1 r2 =>
    cases r2
    cases r1
    obtain ⟨hid, ⟨ns, i, r, m, c, hb, hl, i0, r0, m0, m1, c0⟩, htab, htv⟩ := g.box b l T rfl
    have nlb : ∀ (o : HO), SqL K (upd H b o) l (ns.map V.int) := fun o => by
      refine Sub.sqL (fun a u e => ?_) hl
      rw [upd_ne (fun z => by rw [z, hid] at e; cases e)]
      exact g.sub a u e
    have fin : ∀ (k i r m c : Int), 0 ≤ k → k < n → 0 ≤ i → 0 ≤ r → 0 ≤ m → m < 2147483587 → 0 ≤ c → Q (.int k) (upd H b (bx l i r m c)) := fun k i r m c k0 k1 i0 r0 m0 m1 c0 => by
      refine hq (.int k) O (h0 k k0 k1) (.int k) G _ ⟨Sub.refl G, ⟨fun a o e => ?_, fun b' l' T' e => ?_, g.amb, fun p d e => ?_⟩, fun a o e ne _ => ?_, fun _ _ _ z n => ⟨z, n⟩, upd_still⟩ (.int k)
      · rw [upd_ne (fun z => by rw [z, hid] at e; cases e)]
        exact g.sub a o e
      · cases e
        refine ⟨hid, ⟨ns, i, r, m, c, upd_same, hl, i0, r0, m0, m1, c0⟩, fun p hp => ?_, htv⟩
        obtain ⟨ps, a1, a2, a3⟩ := htab p hp
        have ne : ∀ {a : Addr} {o : HO}, H a = some o → (∀ xs, o ≠ .lst xs) → upd H b (bx l i r m c) a = some o := fun {a o} e n => by
          rw [upd_ne (fun z => by rw [z, hb] at e; cases e; exact n _ rfl)]; exact e
        refine ⟨ps, ne a1 (fun xs z => by cases z), a2, fun pos cv hc => ?_⟩
        obtain ⟨c0, e1, e2⟩ := a3 pos cv hc
        exact ⟨c0, e1, e2⟩
      · obtain ⟨z1, z2, z3⟩ := g.own p d e
        exact ⟨z1, z2, z3.mono (Sub.refl _) fun o h => by rw [upd_ne (fun z => z2 ⟨b, l, T, rfl, .inl z⟩)]; exact h⟩
      · rw [upd_ne (fun z => ne ⟨b, l, T, rfl, .inl z⟩)]
        exact e
    refine ⟨_, pss_cons (ps_asg (pe_op op_add (pe_ix ix_list (pv 0) pe_int (fun _ _ => rfl)) pe_int) (pg_sub (pv 0) pe_int set_list))
      (C8.pss_cut (ps_if (PW.pt (pw_and (pt_cmpR op_eq (pe_ix ix_list (pv 0) pe_int (fun _ _ => rfl)) pe_int (nomark _)) (pw_and1 (pt_cmpR op_lt (pe_ix ix_list (pv 0) pe_int (fun _ _ => rfl)) (pe_callB call_len rfl ml boot_len (pa_cons (pe_ix ix_list (pv 0) pe_int (fun _ _ => rfl)) pa_nil)) (nomark _)))))
        (pss_cons (ps_set (i := 2) sc_pull.nd rfl (.inl rfl) (pe_ix ix_list (pe_ix ix_list (pv 0) pe_int (fun _ _ => rfl)) (pe_ix ix_list (pv 0) pe_int (fun _ _ => rfl)) (fun _ _ => rfl)))
        (pss_cons (ps_asg (pe_op op_add (pe_ix ix_list (pv 0) pe_int (fun _ _ => rfl)) pe_int) (pg_sub (pv 0) pe_int set_list))
        (pss_one (ps_if (pt_cmpR op_ge (pe_callB call_abs rfl ma boot_abs (pa_cons (pv 2) pa_nil)) (pe_op op_pow pe_int pe_int) (nomark _))
          (pss_one (ps_asg (pe_callB call_abs rfl ma boot_abs (pa_cons (pv 2) pa_nil)) (pg_sub (pv 0) pe_int set_list)))
          (pss_one (ps_asg (pe_op op_mod (pe_callTy call_int1 rfl mi boot_int (pa_cons (pe_op op_add (pe_op op_add (pe_op op_mul (pe_ix ix_list (pv 0) pe_int (fun _ _ => rfl)) pe_int) (pe_op op_mul (pe_op op_mod (pe_callTy call_int1 rfl mi boot_int (pa_cons (pv 2) pa_nil)) pe_int) pe_int)) pe_int) pa_nil)) pe_int) (pg_sub (pv 0) pe_int set_list)))))))
        pss_nil)
      (pss_cons (ps_if (pt_cmpR op_gt (pe_ix ix_list (pv 0) pe_int (fun _ _ => rfl)) pe_int (nomark _))
        (pss_cons (ps_set (i := 3) sc_pull.nd rfl (.inl rfl) (pe_op op_mod (pe_callTy call_int1 rfl mi boot_int (pa_cons (pe_ix ix_list (pv 0) pe_int (fun _ _ => rfl)) pa_nil)) (pv 1)))
        (pss_cons (ps_asg (pe_op op_fdiv (pe_ix ix_list (pv 0) pe_int (fun _ _ => rfl)) (pv 1)) (pg_sub (pv 0) pe_int set_list))
        (pss_one (ps_ret (pv 3)))))
        pss_nil)
      (pss_cons (ps_set (i := 4) sc_pull.nd rfl (.inl rfl) (pe_op op_mod (pe_callTy call_int1 rfl mi boot_int (pa_cons (pe_op op_add (pe_op op_mul (pe_ix ix_list (pv 0) pe_int (fun _ _ => rfl)) (pe_ix ix_list (pv 0) pe_int (fun _ _ => rfl))) (pe_op op_mul (pe_ix ix_list (pv 0) pe_int (fun _ _ => rfl)) pe_int)) pa_nil)) pe_int))
      (pss_cons (ps_asg (pe_op op_mod (pe_callTy call_int1 rfl mi boot_int (pa_cons (pe_op op_add (pe_op op_add (pe_op op_mul (pv 4) pe_int) (pe_op op_mul (pe_ix ix_list (pv 0) pe_int (fun _ _ => rfl)) pe_int)) pe_int) pa_nil)) pe_int) (pg_sub (pv 0) pe_int set_list))
      (pss_one (ps_ret (pe_op op_mod (pe_callTy call_int1 rfl mi boot_int (pa_cons (pe_op op_fdiv (pe_ix ix_list (pv 0) pe_int (fun _ _ => rfl)) pe_int) pa_nil)) (pv 1)))))))), ?_⟩
    have sq : ∀ {H' : Hp} {i r m c : Int}, H' = upd H b (bx l i r m c) → SqL K H' b [.ref l, .int i, .int r, .int m, .int c] := fun e => by
      rw [e]; exact .inl (.inl upd_same)
    -- box[4] = box[4] + 1
    refine ⟨.ref b, rfl, b, _, 4, _, rfl, rfl, .inl (.inl hb), at4, _, _, rfl, rfl, .ref b, rfl, b, _, 4, 4, rfl, rfl, hb, rfl, ?_⟩
    rw [show [V.ref l, .int i, .int r, .int m, .int c].set 4 (.int (c + 1)) = [V.ref l, .int i, .int r, .int m, .int (c + 1)] from rfl]
    refine ⟨fun σ' H' => ∃ (y2 : Option V) (i r m c : Int), σ' = [some (.ref b), some (.int n), y2, none, none] ∧ H' = upd H b (bx l i r m c) ∧ 0 ≤ i ∧ 0 ≤ r ∧ 0 ≤ m ∧ m < 2147483587 ∧ 0 ≤ c, ?_, ?_⟩
    · -- if box[2] == 0 and box[1] < len(box[0])
      have q0 : SqL K (upd H b (bx l i r m (c + 1))) b [.ref l, .int i, .int r, .int m, .int (c + 1)] := sq rfl
      have stop : ∃ (y2 : Option V) (i' r' m' c' : Int), [some (V.ref b), some (V.int n), none, none, none] = [some (.ref b), some (.int n), y2, none, none] ∧ upd H b (bx l i r m (c + 1)) = upd H b (bx l i' r' m' c') ∧ 0 ≤ i' ∧ 0 ≤ r' ∧ 0 ≤ m' ∧ m' < 2147483587 ∧ 0 ≤ c' :=
        ⟨none, i, r, m, c + 1, rfl, rfl, i0, r0, m0, m1, by omega⟩
      refine ⟨.ref b, rfl, b, _, 2, _, rfl, rfl, q0, at2, rfl, _, rfl, ite2 (fun e1 => ?_) (fun e1 => iteF stop)⟩
      refine ⟨.ref b, rfl, b, _, 1, _, rfl, rfl, q0, at1, .ref b, rfl, b, _, 0, _, rfl, rfl, q0, at0, .ref l, _, rfl, .inl ⟨_, nlb _, rfl⟩, _, _, rfl, rfl, _, rfl, ite2 (fun e2 => ?_) (fun e2 => stop)⟩
      have e2 : i < ((ns.map V.int).length : Int) := of_decide_eq_true e2
      rw [List.length_map] at e2
      have hi : i.toNat < ns.length := by omega
      have gi : (ns.map V.int)[i.toNat]? = some (.int ns[i.toNat]) := by
        rw [List.getElem?_map, List.getElem?_eq_getElem hi]; rfl
      have ai : atI (ns.map V.int) i = some (.int ns[i.toNat]) := by
        have := atI_nat gi
        rwa [Int.toNat_of_nonneg i0] at this
      -- cell = box[0][box[1]]; box[1] = box[1] + 1
      refine ⟨.ref b, rfl, b, _, 0, _, rfl, rfl, q0, at0, .ref b, rfl, b, _, 1, _, rfl, rfl, q0, at1, l, _, i, _, rfl, rfl, nlb _, ai, ?_⟩
      refine ⟨.ref b, rfl, b, _, 1, _, rfl, rfl, q0, at1, _, _, rfl, rfl, .ref b, rfl, b, _, 1, 1, rfl, rfl, upd_same, rfl, ?_⟩
      rw [upd_upd, show [V.ref l, .int i, .int r, .int m, .int (c + 1)].set 1 (.int (i + 1)) = [V.ref l, .int (i + 1), .int r, .int m, .int (c + 1)] from rfl]
      have q1 : SqL K (upd H b (bx l (i + 1) r m (c + 1))) b [.ref l, .int (i + 1), .int r, .int m, .int (c + 1)] := sq rfl
      refine ⟨.int ns[i.toNat], rfl, _, rfl, _, _, rfl, rfl, ⟨by decide, by decide, by decide⟩, _, _, rfl, rfl, _, rfl, ite2 (fun e3 => ?_) (fun e3 => ?_)⟩
      · refine ⟨.int ns[i.toNat], rfl, _, rfl, .ref b, rfl, b, _, 2, 2, rfl, rfl, upd_same, rfl, ?_⟩
        rw [upd_upd]
        refine ⟨some (.int ns[i.toNat]), i + 1, _, m, c + 1, rfl, rfl, by omega, ?_, m0, m1, by omega⟩
        split <;> omega
      · refine ⟨.ref b, rfl, b, _, 3, _, rfl, rfl, q1, at3, _, _, rfl, rfl, .inr ⟨by decide, by decide⟩, .int ns[i.toNat], rfl, .inl ⟨_, rfl, _, _, rfl, rfl, (by decide : (0 : Int) < 1000003), _, _, rfl, rfl, .inr ⟨by decide, by decide⟩, _, _, rfl, rfl, _, _, rfl, rfl, .inl ⟨_, rfl, _, _, rfl, rfl, (by decide : (0 : Int) < 2147483587), .ref b, rfl, b, _, 3, 3, rfl, rfl, upd_same, rfl, ?_⟩⟩⟩
        rw [upd_upd]
        exact ⟨some (.int ns[i.toNat]), i + 1, r, _, c + 1, rfl, rfl, by omega, r0, Int.emod_nonneg _ (by decide), Int.emod_lt_of_pos _ (by decide), by omega⟩
    · rintro σ' H' ⟨y2, i, r, m, c, rfl, rfl, i0, r0, m0, m1, c0⟩
      have q0 : SqL K (upd H b (bx l i r m c)) b [.ref l, .int i, .int r, .int m, .int c] := sq rfl
      refine ⟨.ref b, rfl, b, _, 2, _, rfl, rfl, q0, at2, _, _, rfl, rfl, _, rfl, ite2 (fun e1 => ?_) (fun e1 => ?_)⟩
      · refine ⟨.ref b, rfl, b, _, 2, _, rfl, rfl, q0, at2, .inl ⟨_, rfl, .int n, rfl, _, _, rfl, rfl, n0, ?_⟩⟩
        refine ⟨.ref b, rfl, b, _, 2, _, rfl, rfl, q0, at2, .int n, rfl, _, _, rfl, rfl, ⟨n0, n1⟩, .ref b, rfl, b, _, 2, 2, rfl, rfl, upd_same, rfl, .int (r % n), rfl, ?_⟩
        rw [upd_upd]
        exact fin _ i (r / n) m c (Int.emod_nonneg _ (by omega)) (Int.emod_lt_of_pos _ n0) i0 (Int.ediv_nonneg r0 (by omega)) m0 m1 c0
      · refine ⟨.ref b, rfl, b, _, 3, _, rfl, rfl, q0, at3, .ref b, rfl, b, _, 3, _, rfl, rfl, q0, at3, _, _, rfl, rfl, .inl ⟨by omega, by omega⟩, .ref b, rfl, b, _, 4, _, rfl, rfl, q0, at4, _, _, rfl, rfl, .inr ⟨by decide, by decide⟩, _, _, rfl, rfl, .inl ⟨_, rfl, _, _, rfl, rfl, (by decide : (0 : Int) < 2147483543), ?_⟩⟩
        refine ⟨_, rfl, _, _, rfl, rfl, .inr ⟨by decide, by decide⟩, .ref b, rfl, b, _, 3, _, rfl, rfl, q0, at3, _, _, rfl, rfl, .inr ⟨by decide, by decide⟩, _, _, rfl, rfl, _, _, rfl, rfl, .inl ⟨_, rfl, _, _, rfl, rfl, (by decide : (0 : Int) < 2147483587), .ref b, rfl, b, _, 3, 3, rfl, rfl, upd_same, rfl, ?_⟩⟩
        rw [upd_upd]
        refine ⟨.ref b, rfl, b, _, 3, _, rfl, rfl, sq rfl, at3, _, _, rfl, rfl, ⟨by decide, by decide⟩, .inl ⟨_, rfl, .int n, rfl, _, _, rfl, rfl, n0, ?_⟩⟩
        exact fin _ i r _ c (Int.emod_nonneg _ (by omega)) (Int.emod_lt_of_pos _ n0) i0 r0 (Int.emod_nonneg _ (by decide)) (Int.emod_lt_of_pos _ (by decide)) c0
end
end LW
set_option Elab.async false
set_option linter.all false
set_option maxRecDepth 100000
set_option maxHeartbeats 4000000
namespace LW
open PySem PySem.Spec PyProof.Rows L2 EV
theorem hu1 {A : Around} {k : Nat} (hr : Room k A) : A.units + 65 < cLine := by have := hr.un; omega
theorem pass0A {X : Cx} {σ : L2.St} {E : XK} : PassesAt CX0 X σ E := fun _ _ _ _ _ _ h => h.elim
abbrev s_of : Stmt := topS 70
abbrev N_of : List Str := ["_law_box_here", "_law_some"]
theorem sc_of : FnScope N_of ["_law_box_here", "_law_some"] (defScope s_of) := ⟨rfl, rfl, rfl, by decide +kernel, rfl, by decide +kernel, by decide +kernel⟩
def itemsL : D → List D
  | .lst xs => xs
  | .tup xs => xs
  | .str y => charsD y
  | _ => []
def ofS : DSp := fun ds O Q _ => ∃ d, ds = [d] ∧ 0 < (itemsL d).length ∧ (itemsL d).length < 1000000 ∧ ∀ y ∈ itemsL d, Q y O
abbrev s_same : Stmt := topS 73
abbrev N_same : List Str := ["_law_found", "_law_due", "_law_a", "_law_b"]
theorem sc_same : FnScope N_same ["_law_found", "_law_due"] (defScope s_same) := ⟨rfl, rfl, rfl, by decide +kernel, rfl, by decide +kernel, by decide +kernel⟩
mutual
def sameD : D → D → Bool
  | .non, .non => true
  | .bl a, .bl b => decide (a = b)
  | .int a, .int b => decide (a = b)
  | .str a, .str b => decide (a = b)
  | .lst xs, .lst ys => sameL xs ys
  | .tup xs, .tup ys => sameL xs ys
  | _, _ => false
def sameL : List D → List D → Bool
  | [], [] => true
  | x :: xs, y :: ys => sameD x y && sameL xs ys
  | _, _ => false
end
/-- plain data, at most so deep -/
def Plain : Nat → D → Prop
  | _, .non => True
  | _, .bl _ => True
  | _, .int _ => True
  | _, .str _ => True
  | n + 1, .lst xs => xs.length ≤ sizeLine ∧ ∀ x ∈ xs, Plain n x
  | n + 1, .tup xs => xs.length ≤ sizeLine ∧ ∀ x ∈ xs, Plain n x
  | _, _ => False
def sameS (n : Nat) : DSp := fun ds O Q _ => ∃ a b, ds = [a, b] ∧ Plain n a ∧ Plain n b ∧ Q (.bl (sameD a b)) O
theorem Plain.ty {n : Nat} {d : D} (h : Plain n d) : (tyD d).isSome = true := by
  cases d <;> cases n <;> first | rfl | exact h.elim
theorem sameL_len {xs ys : List D} (h : xs.length ≠ ys.length) : sameL xs ys = false := by
  induction xs generalizing ys with
  | nil => cases ys with
    | nil => exact absurd rfl h
    | cons => rfl
  | cons x xs ih => cases ys with
    | nil => rfl
    | cons y ys =>
      simp only [List.length_cons, ne_eq, Nat.add_right_cancel_iff] at h
      simp [sameL, ih h]
theorem sameL_zip {xs ys : List D} (h : xs.length = ys.length) : sameL xs ys = ((List.zip xs ys).all fun p => sameD p.1 p.2) := by
  induction xs generalizing ys with
  | nil => cases ys with
    | nil => rfl
    | cons => cases h
  | cons x xs ih => cases ys with
    | nil => cases h
    | cons y ys =>
      simp only [List.length_cons, Nat.add_right_cancel_iff] at h
      simp [sameL, ih h]
theorem zipL_eq (xs ys : List D) : zipL xs ys = (List.zip xs ys).map fun p => .tup [p.1, p.2] := by
  unfold zipL
  rw [List.zip, List.map_zipWith]
section
variable {P : Program} {w : World} {K : PySem.W.Frag} {mg : Str → Option Value} {base : Heap}
theorem ok_of {f fP : Addr} {fd fdP : FuncData} (F : Fun K "_law_of" "_law_of" s_of f fd) (G_pull : FnOk P w K mg base CX0 1 fP fdP ["_law_box_here", "_law_many"] (spB K pullS)) (T_pull : Gf K mg "_law_pull" fP fdP ["_law_box_here", "_law_many"]) (m_len : mg "len" = none) :
    FnOk P w K mg base CX0 2 f fd ["_law_box_here", "_law_some"] (spB K ofS) := by
  refine fn_box F sc_of (fun ds O Q E h => ?_) (fun cdv A outer s H E b l T hr =>
    (d_sone (d_ret (d_ix (d_var (i := 1) rfl (.inl rfl) (by decide) (by decide)) (d_callX G_pull rfl (hr.mono (by decide)) rfl T_pull.m T_pull.k T_pull.b (fun _ => pass0A) (d_cons (d_var (i := 0) rfl (.inl rfl) (by decide) (by decide)) (d_cons (d_callB cd_len rfl m_len boot_len (d_cons (d_var (i := 1) rfl (.inl rfl) (by decide) (by decide)) d_nil rfl) (by decide) (by decide) rfl rfl) d_nil rfl) rfl) (by decide) rfl rfl) (fun _ _ => rfl))))) (fun b ds O Q E h => ?_) (fun ds O Q E h => h)
  · obtain ⟨d, rfl, _⟩ := h; rfl
  · obtain ⟨d, rfl, h1, h2, q⟩ := h
    rw [show startD N_of [.opq (.ref b), d] = [.sh (.opq (.ref b)), .sh d] from rfl]
    have key : ∀ (xs : List D) (k : Int), 0 ≤ k → k < xs.length → ∃ y, atI xs k = some y ∧ y ∈ xs := fun xs k k0 k1 => by
      have hk : k.toNat < xs.length := by omega
      have e : atI xs ((k.toNat : Nat) : Int) = some xs[k.toNat] := atI_nat (List.getElem?_eq_getElem hk)
      rw [Int.toNat_of_nonneg k0] at e
      exact ⟨_, e, List.getElem_mem hk⟩
    cases d with
    | lst xs =>
      refine ⟨rfl, spM.of ⟨xs.length, rfl, by exact_mod_cast h1, by have : xs.length < 1000000 := h2; omega, fun k k0 k1 => ?_⟩⟩
      obtain ⟨y, e, m⟩ := key xs k k0 k1
      show ixP _ _ _
      simp only [ixP, lk, e]
      exact q y m
    | tup xs =>
      refine ⟨rfl, spM.of ⟨xs.length, rfl, by exact_mod_cast h1, by have : xs.length < 1000000 := h2; omega, fun k k0 k1 => ?_⟩⟩
      obtain ⟨y, e, m⟩ := key xs k k0 k1
      show ixP _ _ _
      simp only [ixP, lk, e]
      exact q y m
    | str z =>
      have hz : (charsD z).length = z.length := by simp [charsD]; rfl
      have h1 : 0 < (charsD z).length := h1
      have h2 : (charsD z).length < 1000000 := h2
      rw [hz] at h1 h2
      have hs : z.length ≤ sizeLine := Nat.le_trans (Nat.le_of_lt h2) (by decide)
      refine ⟨hs, rfl, spM.of ⟨z.length, rfl, by exact_mod_cast h1, by omega, fun k k0 k1 => ⟨hs, ?_⟩⟩⟩
      have hk : k.toNat < z.cps.toList.length := by
        have : z.cps.toList.length = z.length := by simp; rfl
        omega
      have e : atI z.cps.toList ((k.toNat : Nat) : Int) = some z.cps.toList[k.toNat] := atI_nat (List.getElem?_eq_getElem hk)
      rw [Int.toNat_of_nonneg k0] at e
      rw [e]
      exact q _ (List.mem_map.mpr ⟨_, List.getElem_mem hk, rfl⟩)
    | non => cases h1
    | bl => cases h1
    | int => cases h1
    | opq => cases h1
    | dic => cases h1
    | ins => cases h1
    | exc => cases h1
    | lam => cases h1
theorem ok_same {f : Addr} {fd : FuncData} (F : Fun K "_law_same" "_law_same" s_same f fd) (T_same : Gf K mg "_law_same" f fd ["_law_found", "_law_due"]) (m_isinstance : mg "isinstance" = none) (m_list : mg "list" = none) (m_tuple : mg "tuple" = none)
    (m_bool : mg "bool" = none) (m_int : mg "int" = none) (m_str : mg "str" = none) (m_len : mg "len" = none) (m_all : mg "all" = none) (m_zip : mg "zip" = none) : ∀ n : Nat, FnOk P w K mg base CX0 (n + 2) f fd ["_law_found", "_law_due"] (spD K (sameS n)) := by
  have step : ∀ (k : Nat) (S : DSp), FnOk P w K mg base CX0 (k + 1) f fd ["_law_found", "_law_due"] (spD K S) → ∀ (S2 : DSp), (∀ ds O Q E, S2 ds O Q E → ∃ (n : Nat) (a b : D), ds = [a, b] ∧ Plain n a ∧ Plain n b ∧ Q (.bl (sameD a b)) O ∧ ∀ x y Q', (∃ m, n = m + 1 ∧ Plain m x ∧ Plain m y) → Q' (.bl (sameD x y)) O → S [x, y] O Q' fun _ _ => False) →
      (∀ ds O Q E, S2 ds O Q E → S2 ds O Q fun _ _ => False) → FnOk P w K mg base CX0 (k + 2) f fd ["_law_found", "_law_due"] (spD K S2) := by
    intro k S G_same S2 hS noex
    refine fn_pure F sc_same (fun ds O Q E h => ?_) (fun cdv A outer s H E hr =>
      (d_scons (d_ifS (DPW.pt (d_wor (d_tcmp od_is (d_var (i := 1) rfl (.inl rfl) (by decide) (by decide)) d_non (nomark _)) (d_or1 (d_tcmp od_is (d_var (i := 0) rfl (.inl rfl) (by decide) (by decide)) d_non (nomark _))))) (d_sone (d_ret (d_and (d_cmp od_is (d_var (i := 1) rfl (.inl rfl) (by decide) (by decide)) d_non (nomark _)) (d_one (d_cmp od_is (d_var (i := 0) rfl (.inl rfl) (by decide) (by decide)) d_non (nomark _)))))) d_snil)
      (d_scons (d_ifS (d_test (d_isiT rfl m_isinstance (d_var (i := 1) rfl (.inl rfl) (by decide) (by decide)) (d_cons (d_ty rfl m_list boot_list (by decide) (by decide)) (d_cons (d_ty rfl m_tuple boot_tuple (by decide) (by decide)) d_nil rfl) rfl) rfl rfl rfl) (by intro _; rfl)) (d_scons (d_ifS (DPW.pt (d_wor (d_tcmp (od_ne hr.units) (d_callB cd_isi rfl m_isinstance boot_isinstance (d_cons (d_var (i := 0) rfl (.inl rfl) (by decide) (by decide)) (d_cons (d_ty rfl m_list boot_list (by decide) (by decide)) d_nil rfl) rfl) (by decide) (by decide) rfl rfl) (d_callB cd_isi rfl m_isinstance boot_isinstance (d_cons (d_var (i := 1) rfl (.inl rfl) (by decide) (by decide)) (d_cons (d_ty rfl m_list boot_list (by decide) (by decide)) d_nil rfl) rfl) (by decide) (by decide) rfl rfl) (nomark _)) (d_or1 (d_tcmp (od_ne hr.units) (d_callB cd_isi rfl m_isinstance boot_isinstance (d_cons (d_var (i := 0) rfl (.inl rfl) (by decide) (by decide)) (d_cons (d_ty rfl m_tuple boot_tuple (by decide) (by decide)) d_nil rfl) rfl) (by decide) (by decide) rfl rfl) (d_callB cd_isi rfl m_isinstance boot_isinstance (d_cons (d_var (i := 1) rfl (.inl rfl) (by decide) (by decide)) (d_cons (d_ty rfl m_tuple boot_tuple (by decide) (by decide)) d_nil rfl) rfl) (by decide) (by decide) rfl rfl) (nomark _))))) (d_sone (d_ret d_bl)) d_snil)
      (d_sone (d_ret (d_and (d_cmp (od_eq hr.units) (d_callB cd_len rfl m_len boot_len (d_cons (d_var (i := 0) rfl (.inl rfl) (by decide) (by decide)) d_nil rfl) (by decide) (by decide) rfl rfl) (d_callB cd_len rfl m_len boot_len (d_cons (d_var (i := 1) rfl (.inl rfl) (by decide) (by decide)) d_nil rfl) (by decide) (by decide) rfl rfl) (nomark _)) (d_one (d_callB (cd_all rfl) rfl m_all boot_all (d_cons (d_lc rfl sc_same.nd (d_zip rfl m_zip (d_cons (d_var (i := 0) rfl (.inl rfl) (by decide) (by decide)) (d_cons (d_var (i := 1) rfl (.inl rfl) (by decide) (by decide)) d_nil rfl) rfl) rfl rfl) (blkOk_by (own := [("_law_a", 2), ("_law_b", 3)]) (N := N_same) (sc := defScope s_same) (by decide +kernel)) (fun _ _ _ _ _ => (dg_tup (n := 2) rfl (dgs_cons (dg_name (i := 2) sc_same.nd rfl (.inl rfl) (.inr rfl)) (dgs_cons (dg_name (i := 3) sc_same.nd rfl (.inl rfl) (.inr rfl)) dgs_nil rfl) rfl) rfl rfl)) (fun _ _ _ _ _ => d_ifs0) (fun _ _ _ _ _ => (d_call G_same hr rfl T_same.m T_same.k T_same.b (fun _ => pass0A) (d_cons (d_var (i := 2) rfl (.inl rfl) (by decide) (by decide)) (d_cons (d_var (i := 3) rfl (.inl rfl) (by decide) (by decide)) d_nil rfl) rfl) (by decide) rfl rfl)) (by decide +kernel) (fun _ => rfl)) d_nil rfl) (by decide) (by decide) rfl rfl)))))) d_snil)
      (d_scons (d_ifS (DPW.pt (d_wor (d_test (d_callB cd_isi rfl m_isinstance boot_isinstance (d_cons (d_var (i := 1) rfl (.inl rfl) (by decide) (by decide)) (d_cons (d_ty rfl m_bool boot_bool (by decide) (by decide)) d_nil rfl) rfl) (by decide) (by decide) rfl rfl) (by intro _; rfl)) (d_or1 (d_test (d_callB cd_isi rfl m_isinstance boot_isinstance (d_cons (d_var (i := 0) rfl (.inl rfl) (by decide) (by decide)) (d_cons (d_ty rfl m_bool boot_bool (by decide) (by decide)) d_nil rfl) rfl) (by decide) (by decide) rfl rfl) (by intro _; rfl))))) (d_sone (d_ret (d_and (d_callB cd_isi rfl m_isinstance boot_isinstance (d_cons (d_var (i := 1) rfl (.inl rfl) (by decide) (by decide)) (d_cons (d_ty rfl m_bool boot_bool (by decide) (by decide)) d_nil rfl) rfl) (by decide) (by decide) rfl rfl) (d_and (d_callB cd_isi rfl m_isinstance boot_isinstance (d_cons (d_var (i := 0) rfl (.inl rfl) (by decide) (by decide)) (d_cons (d_ty rfl m_bool boot_bool (by decide) (by decide)) d_nil rfl) rfl) (by decide) (by decide) rfl rfl) (d_one (d_cmp (od_eq hr.units) (d_var (i := 0) rfl (.inl rfl) (by decide) (by decide)) (d_var (i := 1) rfl (.inl rfl) (by decide) (by decide)) (nomark _))))))) d_snil)
      (d_scons (d_ifS (d_test (d_callB cd_isi rfl m_isinstance boot_isinstance (d_cons (d_var (i := 1) rfl (.inl rfl) (by decide) (by decide)) (d_cons (d_ty rfl m_int boot_int (by decide) (by decide)) d_nil rfl) rfl) (by decide) (by decide) rfl rfl) (by intro _; rfl)) (d_sone (d_ret (d_and (d_callB cd_isi rfl m_isinstance boot_isinstance (d_cons (d_var (i := 0) rfl (.inl rfl) (by decide) (by decide)) (d_cons (d_ty rfl m_int boot_int (by decide) (by decide)) d_nil rfl) rfl) (by decide) (by decide) rfl rfl) (d_one (d_cmp (od_eq hr.units) (d_var (i := 0) rfl (.inl rfl) (by decide) (by decide)) (d_var (i := 1) rfl (.inl rfl) (by decide) (by decide)) (nomark _)))))) d_snil)
      (d_sone (d_ret (d_and (d_callB cd_isi rfl m_isinstance boot_isinstance (d_cons (d_var (i := 0) rfl (.inl rfl) (by decide) (by decide)) (d_cons (d_ty rfl m_str boot_str (by decide) (by decide)) d_nil rfl) rfl) (by decide) (by decide) rfl rfl) (d_and (d_callB cd_isi rfl m_isinstance boot_isinstance (d_cons (d_var (i := 1) rfl (.inl rfl) (by decide) (by decide)) (d_cons (d_ty rfl m_str boot_str (by decide) (by decide)) d_nil rfl) rfl) (by decide) (by decide) rfl rfl) (d_one (d_cmp (od_eq hr.units) (d_var (i := 0) rfl (.inl rfl) (by decide) (by decide)) (d_var (i := 1) rfl (.inl rfl) (by decide) (by decide)) (nomark _)))))))))))) (fun ds O Q E h => ?_) noex
    · obtain ⟨n, a, b, rfl, _⟩ := hS ds O Q E h; rfl
    · obtain ⟨n, a, b, rfl, pa, pb, q, rec⟩ := hS ds O Q E h
      rw [show startD N_same [a, b] = [.sh a, .sh b, .un, .un] from rfl]
      have ta := pa.ty
      have tb := pb.ty
      have core : ∀ (xs ys : List D) (Q' : QD), xs.length ≤ sizeLine → (∃ m, n = m + 1 ∧ (∀ x ∈ xs, Plain m x) ∧ ∀ y ∈ ys, Plain m y) → xs.length = ys.length → Q' (.bl (sameL xs ys)) O →
          lcW tt1 (dgTup 2 (dgCons (dgName 2) (dgCons (dgName 3) dgNil))) dYes (dCall S (dCons (dVar 2) (dCons (dVar 3) dNil))) [.sh a, .sh b, .un, .un] (zipL xs ys) [] O (fun l O1 => allD [.lst l] fun d => Q' d O1) := by
        intro xs ys Q' hl ⟨m, em, hx, hy⟩ hlen q'
        refine lcW_map trivial (fun d => match d with | .tup [x, y] => .bl (sameD x y) | _ => .non) (fun d md Qy hq => ?_) (by simp [zipL]; omega) ?_
        · rw [zipL_eq] at md
          obtain ⟨⟨x, y⟩, mp, rfl⟩ := List.mem_map.mp md
          have mm : x ∈ xs ∧ y ∈ ys := by
            exact ⟨(List.of_mem_zip mp).1, (List.of_mem_zip mp).2⟩
          exact ⟨rfl, spM.of (rec x y Qy ⟨m, em, hx x mm.1, hy y mm.2⟩ hq)⟩
        · rw [List.nil_append, zipL_eq, List.map_map]
          refine allD_of (toBs_map (fun p : D × D => sameD p.1 p.2) _) ?_
          rw [List.all_map]
          have := sameL_zip hlen
          rw [this] at q'
          exact q'
      cases b with
      | non =>
        cases a <;> first
          | exact q
          | (cases ta; done)
      | lst ys =>
        cases n with
        | zero => exact pb.elim
        | succ n =>
          cases a with
          | lst xs =>
            refine ⟨by decide, rfl, ?_⟩
            refine ⟨by decide, rfl, by decide, rfl, ?_⟩
            refine ⟨by decide, rfl, by decide, rfl, ?_⟩
            by_cases hl : xs.length = ys.length
            · show bc (decide ((xs.length : Int) = ys.length)) _ _
              rw [decide_eq_true (by rw [hl])]
              exact core xs ys Q pa.1 ⟨n, rfl, pa.2, pb.2⟩ hl q
            · show bc (decide ((xs.length : Int) = ys.length)) _ _
              rw [decide_eq_false (by omega)]
              rw [show sameD (.lst xs) (.lst ys) = sameL xs ys by simp [sameD], sameL_len hl] at q
              exact q
          | tup xs => simp only [sameD] at q; (repeat (first | exact q | refine ⟨by decide, rfl, ?_⟩))
          | non => simp only [sameD] at q; (repeat (first | exact q | refine ⟨by decide, rfl, ?_⟩))
          | bl x => simp only [sameD] at q; (repeat (first | exact q | refine ⟨by decide, rfl, ?_⟩))
          | int x => simp only [sameD] at q; (repeat (first | exact q | refine ⟨by decide, rfl, ?_⟩))
          | str x => simp only [sameD] at q; (repeat (first | exact q | refine ⟨by decide, rfl, ?_⟩))
          | opq => cases ta
          | dic => exact pa.elim
          | ins => cases ta
          | exc => cases ta
          | lam => cases ta
      | tup ys =>
        cases n with
        | zero => exact pb.elim
        | succ n =>
          cases a with
          | tup xs =>
            refine ⟨by decide, rfl, ?_⟩
            refine ⟨by decide, rfl, by decide, rfl, ?_⟩
            refine ⟨by decide, rfl, by decide, rfl, ?_⟩
            by_cases hl : xs.length = ys.length
            · show bc (decide ((xs.length : Int) = ys.length)) _ _
              rw [decide_eq_true (by rw [hl])]
              exact core xs ys Q pa.1 ⟨n, rfl, pa.2, pb.2⟩ hl q
            · show bc (decide ((xs.length : Int) = ys.length)) _ _
              rw [decide_eq_false (by omega)]
              rw [show sameD (.tup xs) (.tup ys) = sameL xs ys by simp [sameD], sameL_len hl] at q
              exact q
          | lst xs => simp only [sameD] at q; (repeat (first | exact q | refine ⟨by decide, rfl, ?_⟩))
          | non => simp only [sameD] at q; (repeat (first | exact q | refine ⟨by decide, rfl, ?_⟩))
          | bl x => simp only [sameD] at q; (repeat (first | exact q | refine ⟨by decide, rfl, ?_⟩))
          | int x => simp only [sameD] at q; (repeat (first | exact q | refine ⟨by decide, rfl, ?_⟩))
          | str x => simp only [sameD] at q; (repeat (first | exact q | refine ⟨by decide, rfl, ?_⟩))
          | opq => cases ta
          | dic => exact pa.elim
          | ins => cases ta
          | exc => cases ta
          | lam => cases ta
      | bl y =>
        cases a with
        | opq => cases ta
        | ins => cases ta
        | exc => cases ta
        | lam => cases ta
        | dic => cases n <;> exact pa.elim
        | _ => simp only [sameD] at q; (repeat (first | exact q | refine ⟨by decide, rfl, ?_⟩))
      | int y =>
        cases a with
        | opq => cases ta
        | ins => cases ta
        | exc => cases ta
        | lam => cases ta
        | dic => cases n <;> exact pa.elim
        | _ => simp only [sameD] at q; (repeat (first | exact q | refine ⟨by decide, rfl, ?_⟩))
      | str y =>
        cases a with
        | opq => cases ta
        | ins => cases ta
        | exc => cases ta
        | lam => cases ta
        | dic => cases n <;> exact pa.elim
        | _ => simp only [sameD] at q; (repeat (first | exact q | refine ⟨by decide, rfl, ?_⟩))
      | opq => cases tb
      | dic => cases n <;> exact pb.elim
      | ins => cases tb
      | exc => cases tb
      | lam => cases tb
  intro n
  induction n with
  | zero =>
    refine step 0 (fun _ _ _ _ => False) ?_ (sameS 0) (fun ds O Q E ⟨a, b, e, pa, pb, q⟩ => ⟨0, a, b, e, pa, pb, q, fun x y Q' ⟨m, em, _⟩ => nomatch em⟩) (fun ds O Q E h => h)
    exact ⟨fun vs H Q E ⟨_, _, _, _, _, _, _, h, _⟩ => h.elim, fun A outer s H args us vs Q E _ _ _ _ ⟨_, _, _, _, _, _, _, h, _⟩ => h.elim⟩
  | succ n ih =>
    exact step (n + 1) (sameS n) ih (sameS (n + 1)) (fun ds O Q E ⟨a, b, e, pa, pb, q⟩ => ⟨n + 1, a, b, e, pa, pb, q, fun x y Q' ⟨m, em, px, py⟩ q' => by
      cases em
      exact ⟨x, y, rfl, px, py, q'⟩⟩) (fun ds O Q E h => h)
end
end LW
set_option Elab.async false
set_option linter.all false
set_option maxRecDepth 100000
set_option maxHeartbeats 4000000
namespace LW
open PySem PySem.Spec PyProof.Rows L2 EV
/-! ### the law's own def: the box first, then by value -/
theorem pss_box {X : Cx} {sts : List Stmt} {m : Addr → DS} {T : List (Addr × Str)} (h : ∀ (b l : Addr), DPSs X ⟨boB b l T, fun _ _ _ _ => False⟩ sts (m b)) : PSs X sts (fun D σ H => ∃ b l, upS X.K ⟨boB b l T, fun _ _ _ _ => False⟩ (m b) D σ H) :=
  ⟨fun pins s σ H D I ⟨b, l, q⟩ => (h b l).run.run pins s σ H D I q⟩
def spLaw (K : PySem.W.Frag) (T : List (Addr × Str)) : Sp := fun vs H Q _ => ∃ (a : Addr) (ns : List Int), vs = [.ref a] ∧ SqL K H a (ns.map V.int) ∧ (∀ p ∈ T, H p.1 = some (.tbl #[])) ∧ ∀ H', Q (.bl true) H'
/-- the slots behind the box -/
def boxed (b : Addr) (n : Nat) : Slots := .un :: .sh (.opq (.ref b)) :: List.replicate n .un
def noO : Ow := fun _ => none
theorem boxed_rp {K : PySem.W.Frag} {G : Hp} {a b : Addr} {n : Nat} : RpS K G (some (.ref a) :: some (.ref b) :: List.replicate n none) (boxed b n) := by
  refine ⟨by simp [boxed], fun i d e => ?_⟩
  match i, e with
  | 0, e => cases e
  | 1, e => cases e; exact ⟨_, rfl, .opq _⟩
  | i + 2, e =>
    have : (List.replicate n Sl.un)[i]? = some (.sh d) := e
    rw [List.getElem?_replicate] at this
    split at this <;> cases this
/-- from the box's promise and the rest by value to the reading -/
theorem law_read {K : PySem.W.Frag} {a b l : Addr} {T : List (Addr × Str)} {ms : List Int} {mm : Int} {H1 : Hp} {Q : VK} {m : DS} {n : Nat} (mo : MoS m) (hb : H1 b = some (.lst [.ref l, .int 0, .int 0, .int mm, .int 0])) (hl : H1 l = some (.lst (ms.map V.int))) (ne : l ≠ b) (hT : ∀ p ∈ T, H1 p.1 = some (.tbl #[])) (m0 : 0 ≤ mm) (m1 : mm < 2147483587)
    (q : ∀ H', Q (.bl true) H') (h : m (endsD (fun d _ => d = .bl true) (fun _ _ => False)) (boxed b n) noO) :
    upS K ⟨boB b l T, fun _ _ _ _ => False⟩ m { nx := fun _ H' => Q .non H', rt := Q } (some (.ref a) :: some (.ref b) :: List.replicate n none) H1 := by
  have isT : ∀ x, x ∈ T.map (·.1) → H1 x = some (.tbl #[]) := fun x hx => by
    obtain ⟨p, hp, rfl⟩ := List.mem_map.mp hx
    exact hT p hp
  have lT : l ∉ T.map (·.1) := fun z => by have := isT l z; rw [hl] at this; cases this
  refine ⟨fun x => if x = b ∨ x ∈ T.map (·.1) then none else H1 x, noO, boxed b n, ⟨fun x o e => ?_, fun b' l' T' e => ?_, (fun _ _ e => nomatch e), fun p d e => nomatch e⟩, boxed_rp, mo (endsD (fun d _ => d = .bl true) fun _ _ => False) _ _ _ ⟨fun r O z => ?_, fun d O z v G' H' _ r => ?_, fun _ _ z => z.elim, fun _ _ z => z.elim, fun _ _ _ z => z.elim⟩ h⟩
  · by_cases c : x = b ∨ x ∈ T.map (·.1)
    · rw [if_pos c] at e; cases e
    · rw [if_neg c] at e; exact e
  · cases e
    refine ⟨if_pos (.inl rfl), ⟨ms, 0, 0, mm, 0, hb, .inl (.inl (by show (if l = b ∨ l ∈ T.map (·.1) then none else H1 l) = _; rw [if_neg (fun z => z.elim ne lT)]; exact hl)), by decide, by decide, m0, m1, by decide⟩, fun p hp => ⟨#[], hT p hp, True.intro, fun pos cv hc => by
      have z : codeAmong pos [] = some cv := hc
      simp [codeAmong] at z⟩, fun p hp => if_pos (.inr (List.mem_map_of_mem hp))⟩
  · cases (show D.non = D.bl true from z)
  · subst z
    cases r
    exact q H'
end LW
set_option Elab.async false
set_option linter.all false
set_option maxRecDepth 100000
set_option maxHeartbeats 4000000
namespace EV
open PySem PySem.Spec PyProof.Rows L2
section
variable {X : Cx} {L : Pl} {a : Expr} {m : DE} {pos : Pos}
/-- - e -/
def negD : D → (D → Prop) → Prop
  | .int i, Q => Q (.int (-i))
  | _, _ => False
abbrev dNeg (m : DE) : DE := fun ρ O Q E => m ρ O (fun x O1 => negD x fun d => Q d O1) E
theorem d_neg (h : DPE X L a m) : DPE X L (.UnaryOp .USub a pos) (dNeg m) := by
  refine ⟨fun ρ O Q Q' E E' q hx x => h.mo ρ _ _ _ _ _ (fun d O1 z => ?_) hx x, pe_imp (pe_un un_neg h.run) fun σ H Q ⟨G, O, ρ, g, rs, q⟩ => ?_⟩
  · cases d <;> first | exact q _ _ z | exact z
  · refine up_of h.mo g rs q fun x v O1 G1 H1 q1 s1 r1 => ?_
    cases r1 <;> first
      | exact ⟨_, rfl, q1 _ _ _ s1 (.int _)⟩
      | exact q1.elim
/-- a text among texts -/
def inSD (f : Bool → Bool) : P2
  | .str x, .tup xs, Q => match toSs xs with
    | some ss => Q (.bl (f (ss.any fun z => decide (x = z))))
    | none => False
  | .str x, .lst xs, Q => match toSs xs with
    | some ss => Q (.bl (f (ss.any fun z => decide (x = z))))
    | none => False
  | _, _, _ => False
theorem flat_strs (ss : List Str) : (ss.map V.str).all flatV = true := by
  induction ss with
  | nil => rfl
  | cons a r ih => simp [flatV, ih]
theorem inV_strs (x : Str) (ss : List Str) : inV (.str x) (ss.map V.str) = ss.any fun z => decide (x = z) := by
  induction ss with
  | nil => rfl
  | cons a r ih =>
    have e : eqV (V.str a) (V.str x) = decide (x = a) := by
      by_cases h : x = a
      · subst h; simp [eqV]
      · have h' : ¬ a = x := fun z => h z.symm
        simp [eqV, h, h']
    simp [inV] at ih ⊢
    simp [ih, e]
theorem od_inSf {B : Bo} {op : CmpOp} {f : Bool → Bool} {ng : Bool} (h : OpR X (compareOp op) (rIn X.K ng)) (hf : ∀ b, (if ng = true then !b else b) = f b) : OpD X B (compareOp op) (pu (inSD f)) := by
  refine ⟨fun O x y Q Q' q z => ?_, _, h, fun O G H x y a b Q gd r1 r2 q => ?_⟩
  · dsimp only [pu] at z ⊢; unfold inSD at z ⊢
    split at z
    · split at z
      · exact q _ z
      · exact z
    · split at z
      · exact q _ z
      · exact z
    · exact z
  · dsimp only [pu] at q; unfold inSD at q
    split at q
    · split at q
      · rename_i ss e
        cases r1
        cases r2 with
        | tup s l =>
          have ev := toSs_vs l e
          subst ev
          exact ⟨_, _, rfl, .inr (gd.sub.sqT s), rfl, flat_strs ss, by rw [hf, inV_strs]; exact q _ _ _ (Step.refl gd) (.bl _)⟩
      · exact q.elim
    · split at q
      · rename_i ss e
        cases r1
        cases r2 with
        | lst s l =>
          have ev := toSs_vs l e
          subst ev
          exact ⟨_, _, rfl, .inl (gd.sub.lstL s), rfl, flat_strs ss, by rw [hf, inV_strs]; exact q _ _ _ (Step.refl gd) (.bl _)⟩
      · exact q.elim
    · exact q.elim
theorem od_inS {B : Bo} : OpD X B (compareOp .In) (pu (inSD id)) := od_inSf op_in_seq fun b => rfl
theorem od_notinS {B : Bo} : OpD X B (compareOp .NotIn) (pu (inSD not)) := od_inSf op_notIn_seq fun b => rfl
end
end EV
set_option Elab.async false
set_option linter.all false
set_option maxRecDepth 100000
set_option maxHeartbeats 4000000
namespace EV
open PySem PySem.Spec PyProof.Rows L2
section
variable {X : Cx} {L : Pl} {a b c : Expr} {mA : DA} {pos : Pos}
/-- x, y = a, b with plain local names -/
abbrev dPar (i j : Nat) (mA : DA) : DS := fun A ρ O => mA ρ O (fun ds O1 => match ds with
  | [u, v] => A.nx ((ρ.set i (.sh u)).set j (.sh v)) O1
  | _ => False) (fun x O1 => A.ex x ρ O1)
theorem d_par {i j : Nat} {x y : Str} {px py pt : Pos} {kt k2 pt2} (hc : X.calm = true) (hN : X.N.Nodup) (hi : X.N[i]? = some x) (hj : X.N[j]? = some y) (hij : i ≠ j)
    (hx : X.env.scope.names.lookup x = some .local) (hy : X.env.scope.names.lookup y = some .local) (ha : DPA X L [a, b] mA)
    (hw : swappedStores [.Tuple [.Name x px, .Name y py] kt pt] (.Tuple [a, b] k2 pt2) X.env = pure (some [x, y]))
    (hs : swapsWithSole [.Tuple [.Name x px, .Name y py] kt pt] (.Tuple [a, b] k2 pt2) pos.line X.env = pure false) :
    DPS X L (.Assign [.Tuple [.Name x px, .Name y py] kt pt] (.Tuple [a, b] k2 pt2) pos) (dPar i j mA) := by
  refine ⟨fun A A' ρ O l z => ha.mo _ _ _ _ _ _ (fun d O1 y => ?_) (fun x _ y => l.ex _ _ _ y) z, ps_imp (ps_par hc hN hi hj hij hx hy ha.run hw hs) fun Dn σ H ⟨G, O, ρ, g, rs, q⟩ => ?_⟩
  · split at y
    · exact l.nx _ _ y
    · exact y
  · refine upAE ha.mo g rs q fun ds vs O1 G1 H1 q1 s1 r1 => ?_
    split at q1
    · cases r1 with
      | cons r1 r2 =>
        cases r2 with
        | cons r2 r3 =>
          cases r3
          exact ⟨_, _, rfl, q1 _ _ _ s1 (((rs.step s1).set r1).set r2)⟩
    · exact q1.elim
end
end EV
set_option Elab.async false
set_option linter.all false
set_option maxRecDepth 100000
set_option maxHeartbeats 4000000
namespace LW
open PySem PySem.Spec PyProof.Rows L2 EV
theorem zip_self {α : Type} : ∀ {xs : List α} {p : α × α}, p ∈ List.zip xs xs → p.1 = p.2
  | [], _, h => by simp at h
  | x :: xs, p, h => by
    rw [List.zip_cons_cons] at h
    rcases List.mem_cons.mp h with e | e
    · rw [e]
    · exact zip_self e
theorem st_norm {rest : DS} {A : DEnds} {ρ ρ' : Slots} {O : Ow} (e : ρ = ρ') (k : rest A ρ' O) : rest A ρ O := e ▸ k
theorem st_set {m : DE} {i : Nat} {rest : DS} {A : DEnds} {ρ : Slots} {O : Ow} (d : D) (h : ∀ Q E, Q d O → m ρ O Q E) (k : ∀ v, v = d → rest A (ρ.set i (.sh v)) O) : dSeq (dAsg m (dgName i)) rest A ρ O := h _ _ (k d rfl)
theorem st_setN {m : DE} {i : Nat} {rest : DS} {A : DEnds} {ρ : Slots} {O : Ow} (P : D → Prop) (h : ∀ Q E, (∀ d, P d → Q d O) → m ρ O Q E) (k : ∀ d, P d → rest A (ρ.set i (.sh d)) O) : dSeq (dAsg m (dgName i)) rest A ρ O := h _ _ k
theorem val_nil {ρ : Slots} {O : Ow} : ∀ (Q : List D → Ow → Prop) (E : QX), Q [] O → dNil ρ O Q E := fun _ _ q => q
theorem val_cons {m : DE} {mr : DA} {ρ : Slots} {O : Ow} (a : D) (as : List D) (h : ∀ Q E, Q a O → m ρ O Q E) (k : ∀ Q E, Q as O → mr ρ O Q E) : ∀ Q E, Q (a :: as) O → dCons m mr ρ O Q E := fun Q E q => h _ _ (k _ _ q)
theorem val_lst {mA : DA} {ρ : Slots} {O : Ow} (xs : List D) (h : ∀ Q E, Q xs O → mA ρ O Q E) (z : xs.length ≤ sizeLine) : ∀ Q E, Q (.lst xs) O → dLst mA ρ O Q E := fun Q E q => h _ _ ⟨z, q⟩
theorem val_tup {mA : DA} {ρ : Slots} {O : Ow} (xs : List D) (h : ∀ Q E, Q xs O → mA ρ O Q E) (z : xs.length ≤ sizeLine) : ∀ Q E, Q (.tup xs) O → dTup mA ρ O Q E := fun Q E q => h _ _ ⟨z, q⟩
theorem val_op {o : D2} {ma mb : DE} {ρ : Slots} {O : Ow} (x y z : D) (h : ∀ Q E, Q x O → ma ρ O Q E) (k : ∀ Q E, Q y O → mb ρ O Q E) (ho : ∀ Q, Q z → o O x y Q) : ∀ Q E, Q z O → dOp o ma mb ρ O Q E := fun Q E q => h _ _ (k _ _ (ho _ q))
theorem le_sz {n : Nat} (h : Nat.ble n sizeLine = true) : n ≤ sizeLine := Nat.le_of_ble_eq_true h
theorem same_refl : ∀ (n : Nat) (d : D), Plain n d → sameD d d = true
  | _, .non, _ => by simp [sameD]
  | _, .bl _, _ => by simp [sameD]
  | _, .int _, _ => by simp [sameD]
  | _, .str _, _ => by simp [sameD]
  | n + 1, .lst xs, h => by
    rw [sameD, sameL_zip rfl]
    refine List.all_eq_true.mpr fun p hp => ?_
    have e : p.1 = p.2 := zip_self hp
    rw [← e]
    exact same_refl n p.1 (h.2 _ (List.of_mem_zip hp).1)
  | n + 1, .tup xs, h => by
    rw [sameD, sameL_zip rfl]
    refine List.all_eq_true.mpr fun p hp => ?_
    have e : p.1 = p.2 := zip_self hp
    rw [← e]
    exact same_refl n p.1 (h.2 _ (List.of_mem_zip hp).1)
  | 0, .lst _, h => h.elim
  | 0, .tup _, h => h.elim
  | 0, .opq _, h => h.elim
  | _ + 1, .opq _, h => h.elim
  | 0, .dic _, h => h.elim
  | _ + 1, .dic _, h => h.elim
  | 0, .ins _ _, h => h.elim
  | _ + 1, .ins _ _, h => h.elim
  | 0, .exc _ _, h => h.elim
  | _ + 1, .exc _ _, h => h.elim
  | 0, .lam _, h => h.elim
  | _ + 1, .lam _, h => h.elim
theorem plain_l {n : Nat} {xs : List D} (h : Nat.ble xs.length 1000 = true) (k : ∀ x ∈ xs, Plain n x) : Plain (n + 1) (.lst xs) := ⟨Nat.le_trans (Nat.le_of_ble_eq_true h) (by decide), k⟩
end LW
set_option Elab.async false
set_option linter.all false
set_option maxRecDepth 100000
set_option maxHeartbeats 4000000
namespace LW
open PySem PySem.Spec PyProof.Rows L2 EV PySem.XO PySem.W
def clsS (i j : Nat) : Stmt := match topS i with
  | .ClassDef _ _ _ body _ _ _ _ _ _ _ => body.getD j (.Pass ⟨0, 0, 0, 0⟩)
  | _ => .Pass ⟨0, 0, 0, 0⟩
abbrev Pr : Program := PySem.Challenge.pw_oncethrough_k16_ways_hold
abbrev st_OnceError : Stmt := clsS 2 0
def in_OnceError : IniD := ⟨"OnceError", "OnceError.__init__", defArgs st_OnceError, defBody st_OnceError, defScope st_OnceError⟩
theorem is_OnceError : IniS in_OnceError := ⟨⟨_, rfl, rfl⟩, rfl, rfl, rfl, rfl, by decide +kernel, rfl, rfl, fun _ _ _ _ => rfl⟩
theorem tx_OnceError : BaseT in_OnceError := ⟨⟨_, _, _, _, _, _, _, _, _, _, rfl, _, fun _ _ _ _ => rfl⟩, rfl, fun _ _ _ _ _ _ _ _ => rfl⟩
def cb_OnceError (K : Frag) : Bool := clsB Pr "ValueError" "ValueError.__new__" bmV K in_OnceError ["code"]
abbrev st_Missing : Stmt := clsS 3 0
def in_Missing : IniD := ⟨"Missing", "Missing.__init__", defArgs st_Missing, defBody st_Missing, defScope st_Missing⟩
theorem is_Missing : IniS in_Missing := ⟨⟨_, rfl, rfl⟩, rfl, rfl, rfl, rfl, by decide +kernel, rfl, rfl, fun _ _ _ _ => rfl⟩
theorem tx_Missing : BaseT in_Missing := ⟨⟨_, _, _, _, _, _, _, _, _, _, rfl, _, fun _ _ _ _ => rfl⟩, rfl, fun _ _ _ _ _ _ _ _ => rfl⟩
def cb_Missing (K : Frag) : Bool := clsB Pr "LookupError" "LookupError.__new__" bmL K in_Missing ["code"]
abbrev st_InvalidNumber : Stmt := clsS 4 0
def in_InvalidNumber : IniD := ⟨"InvalidNumber", "InvalidNumber.__init__", defArgs st_InvalidNumber, defBody st_InvalidNumber, defScope st_InvalidNumber⟩
theorem is_InvalidNumber : IniS in_InvalidNumber := ⟨⟨_, rfl, rfl⟩, rfl, rfl, rfl, rfl, by decide +kernel, rfl, rfl, fun _ _ _ _ => rfl⟩
theorem tx_InvalidNumber : Sub1T in_InvalidNumber "InvalidNumber" "given" := ⟨⟨_, _, _, _, _, _, _, _, _, _, _, rfl, _, fun _ _ _ _ => rfl⟩, rfl, ⟨by decide, by decide, by decide⟩, fun _ _ _ _ _ _ _ _ => rfl⟩
def cb_InvalidNumber (K : Frag) : Bool := clsB Pr "ValueError" "ValueError.__new__" bmV K in_InvalidNumber ["code", "given"] && overB "ValueError.__init__" K "InvalidNumber" "OnceError"
abbrev st_InvalidTable : Stmt := clsS 5 0
def in_InvalidTable : IniD := ⟨"InvalidTable", "InvalidTable.__init__", defArgs st_InvalidTable, defBody st_InvalidTable, defScope st_InvalidTable⟩
theorem is_InvalidTable : IniS in_InvalidTable := ⟨⟨_, rfl, rfl⟩, rfl, rfl, rfl, rfl, by decide +kernel, rfl, rfl, fun _ _ _ _ => rfl⟩
theorem tx_InvalidTable : Sub1T in_InvalidTable "InvalidTable" "name" := ⟨⟨_, _, _, _, _, _, _, _, _, _, _, rfl, _, fun _ _ _ _ => rfl⟩, rfl, ⟨by decide, by decide, by decide⟩, fun _ _ _ _ _ _ _ _ => rfl⟩
def cb_InvalidTable (K : Frag) : Bool := clsB Pr "ValueError" "ValueError.__new__" bmV K in_InvalidTable ["code", "name"] && overB "ValueError.__init__" K "InvalidTable" "OnceError"
abbrev st_InvalidRow : Stmt := clsS 6 0
def in_InvalidRow : IniD := ⟨"InvalidRow", "InvalidRow.__init__", defArgs st_InvalidRow, defBody st_InvalidRow, defScope st_InvalidRow⟩
theorem is_InvalidRow : IniS in_InvalidRow := ⟨⟨_, rfl, rfl⟩, rfl, rfl, rfl, rfl, by decide +kernel, rfl, rfl, fun _ _ _ _ => rfl⟩
theorem tx_InvalidRow : Sub2T in_InvalidRow "InvalidRow" "table" "at" := ⟨⟨_, _, _, _, _, _, _, _, _, _, _, _, _, _, _, rfl, _, fun _ _ _ _ => rfl⟩, rfl, rfl, ⟨by decide, by decide, by decide⟩, ⟨by decide, by decide, by decide⟩, by decide, fun _ _ _ _ _ _ _ _ _ => rfl⟩
def cb_InvalidRow (K : Frag) : Bool := clsB Pr "ValueError" "ValueError.__new__" bmV K in_InvalidRow ["code", "table", "at"] && overB "ValueError.__init__" K "InvalidRow" "OnceError"
abbrev st_InvalidThings : Stmt := clsS 7 0
def in_InvalidThings : IniD := ⟨"InvalidThings", "InvalidThings.__init__", defArgs st_InvalidThings, defBody st_InvalidThings, defScope st_InvalidThings⟩
def cb_InvalidThings (K : Frag) : Bool := clsB Pr "ValueError" "ValueError.__new__" bmV K in_InvalidThings ["code", "given"] && overB "ValueError.__init__" K "InvalidThings" "OnceError"
abbrev st_Unlike : Stmt := clsS 8 0
def in_Unlike : IniD := ⟨"Unlike", "Unlike.__init__", defArgs st_Unlike, defBody st_Unlike, defScope st_Unlike⟩
def cb_Unlike (K : Frag) : Bool := clsB Pr "ValueError" "ValueError.__new__" bmV K in_Unlike ["code"] && overB "ValueError.__init__" K "Unlike" "OnceError"
abbrev st_InvalidNames : Stmt := clsS 9 0
def in_InvalidNames : IniD := ⟨"InvalidNames", "InvalidNames.__init__", defArgs st_InvalidNames, defBody st_InvalidNames, defScope st_InvalidNames⟩
theorem is_InvalidNames : IniS in_InvalidNames := ⟨⟨_, rfl, rfl⟩, rfl, rfl, rfl, rfl, by decide +kernel, rfl, rfl, fun _ _ _ _ => rfl⟩
theorem tx_InvalidNames : Sub1T in_InvalidNames "InvalidNames" "given" := ⟨⟨_, _, _, _, _, _, _, _, _, _, _, rfl, _, fun _ _ _ _ => rfl⟩, rfl, ⟨by decide, by decide, by decide⟩, fun _ _ _ _ _ _ _ _ => rfl⟩
def cb_InvalidNames (K : Frag) : Bool := clsB Pr "ValueError" "ValueError.__new__" bmV K in_InvalidNames ["code", "given"] && overB "ValueError.__init__" K "InvalidNames" "OnceError"
abbrev st_InvalidSaying : Stmt := clsS 10 0
def in_InvalidSaying : IniD := ⟨"InvalidSaying", "InvalidSaying.__init__", defArgs st_InvalidSaying, defBody st_InvalidSaying, defScope st_InvalidSaying⟩
theorem is_InvalidSaying : IniS in_InvalidSaying := ⟨⟨_, rfl, rfl⟩, rfl, rfl, rfl, rfl, by decide +kernel, rfl, rfl, fun _ _ _ _ => rfl⟩
theorem tx_InvalidSaying : Sub1T in_InvalidSaying "InvalidSaying" "given" := ⟨⟨_, _, _, _, _, _, _, _, _, _, _, rfl, _, fun _ _ _ _ => rfl⟩, rfl, ⟨by decide, by decide, by decide⟩, fun _ _ _ _ _ _ _ _ => rfl⟩
def cb_InvalidSaying (K : Frag) : Bool := clsB Pr "ValueError" "ValueError.__new__" bmV K in_InvalidSaying ["code", "given"] && overB "ValueError.__init__" K "InvalidSaying" "OnceError"
abbrev st_InvalidInputs : Stmt := clsS 11 0
def in_InvalidInputs : IniD := ⟨"InvalidInputs", "InvalidInputs.__init__", defArgs st_InvalidInputs, defBody st_InvalidInputs, defScope st_InvalidInputs⟩
theorem is_InvalidInputs : IniS in_InvalidInputs := ⟨⟨_, rfl, rfl⟩, rfl, rfl, rfl, rfl, by decide +kernel, rfl, rfl, fun _ _ _ _ => rfl⟩
theorem tx_InvalidInputs : Sub1T in_InvalidInputs "InvalidInputs" "given" := ⟨⟨_, _, _, _, _, _, _, _, _, _, _, rfl, _, fun _ _ _ _ => rfl⟩, rfl, ⟨by decide, by decide, by decide⟩, fun _ _ _ _ _ _ _ _ => rfl⟩
def cb_InvalidInputs (K : Frag) : Bool := clsB Pr "ValueError" "ValueError.__new__" bmV K in_InvalidInputs ["code", "given"] && overB "ValueError.__init__" K "InvalidInputs" "OnceError"
abbrev st_Unfit : Stmt := clsS 12 0
def in_Unfit : IniD := ⟨"Unfit", "Unfit.__init__", defArgs st_Unfit, defBody st_Unfit, defScope st_Unfit⟩
theorem is_Unfit : IniS in_Unfit := ⟨⟨_, rfl, rfl⟩, rfl, rfl, rfl, rfl, by decide +kernel, rfl, rfl, fun _ _ _ _ => rfl⟩
theorem tx_Unfit : Sub1T in_Unfit "Unfit" "name" := ⟨⟨_, _, _, _, _, _, _, _, _, _, _, rfl, _, fun _ _ _ _ => rfl⟩, rfl, ⟨by decide, by decide, by decide⟩, fun _ _ _ _ _ _ _ _ => rfl⟩
def cb_Unfit (K : Frag) : Bool := clsB Pr "ValueError" "ValueError.__new__" bmV K in_Unfit ["code", "name"] && overB "ValueError.__init__" K "Unfit" "OnceError"
abbrev st_InvalidText : Stmt := clsS 13 0
def in_InvalidText : IniD := ⟨"InvalidText", "InvalidText.__init__", defArgs st_InvalidText, defBody st_InvalidText, defScope st_InvalidText⟩
def cb_InvalidText (K : Frag) : Bool := clsB Pr "ValueError" "ValueError.__new__" bmV K in_InvalidText ["code", "line"] && overB "ValueError.__init__" K "InvalidText" "OnceError"
abbrev st_TooMany : Stmt := clsS 14 0
def in_TooMany : IniD := ⟨"TooMany", "TooMany.__init__", defArgs st_TooMany, defBody st_TooMany, defScope st_TooMany⟩
theorem is_TooMany : IniS in_TooMany := ⟨⟨_, rfl, rfl⟩, rfl, rfl, rfl, rfl, by decide +kernel, rfl, rfl, fun _ _ _ _ => rfl⟩
theorem tx_TooMany : Sub1T in_TooMany "TooMany" "most" := ⟨⟨_, _, _, _, _, _, _, _, _, _, _, rfl, _, fun _ _ _ _ => rfl⟩, rfl, ⟨by decide, by decide, by decide⟩, fun _ _ _ _ _ _ _ _ => rfl⟩
def cb_TooMany (K : Frag) : Bool := clsB Pr "ValueError" "ValueError.__new__" bmV K in_TooMany ["code", "most"] && overB "ValueError.__init__" K "TooMany" "OnceError"
abbrev st_UnknownTable : Stmt := clsS 15 0
def in_UnknownTable : IniD := ⟨"UnknownTable", "UnknownTable.__init__", defArgs st_UnknownTable, defBody st_UnknownTable, defScope st_UnknownTable⟩
theorem is_UnknownTable : IniS in_UnknownTable := ⟨⟨_, rfl, rfl⟩, rfl, rfl, rfl, rfl, by decide +kernel, rfl, rfl, fun _ _ _ _ => rfl⟩
theorem tx_UnknownTable : Sub1T in_UnknownTable "UnknownTable" "name" := ⟨⟨_, _, _, _, _, _, _, _, _, _, _, rfl, _, fun _ _ _ _ => rfl⟩, rfl, ⟨by decide, by decide, by decide⟩, fun _ _ _ _ _ _ _ _ => rfl⟩
def cb_UnknownTable (K : Frag) : Bool := clsB Pr "LookupError" "LookupError.__new__" bmL K in_UnknownTable ["code", "name"] && overB "LookupError.__init__" K "UnknownTable" "Missing"
def exL : List (Frag → Bool) := [cb_OnceError, cb_Missing, cb_InvalidNumber, cb_InvalidTable, cb_InvalidRow, cb_InvalidThings, cb_Unlike, cb_InvalidNames, cb_InvalidSaying, cb_InvalidInputs, cb_Unfit, cb_InvalidText, cb_TooMany, cb_UnknownTable]
def exK (K : Frag) : Bool := exL.all fun f => f K
def inL : List IniD := [in_OnceError, in_Missing, in_InvalidNumber, in_InvalidTable, in_InvalidRow, in_InvalidThings, in_Unlike, in_InvalidNames, in_InvalidSaying, in_InvalidInputs, in_Unfit, in_InvalidText, in_TooMany, in_UnknownTable]
theorem ex_at {K : Frag} (h : exK K = true) {f : Frag → Bool} (m : f ∈ exL) : f K = true := List.all_eq_true.mp h f m
section
variable {w : World} {K : Frag} {mg : Str → Option Value} {base : Heap}
theorem and1 {a b : Bool} (h : (a && b) = true) : a = true := by simp only [Bool.and_eq_true] at h; exact h.1
theorem and2 {a b : Bool} (h : (a && b) = true) : b = true := by simp only [Bool.and_eq_true] at h; exact h.2
theorem co_OnceError (h : exK K = true) (hi : ∀ d ∈ inL, iniW K d.cls = d.val) : ClsO Pr "ValueError" "ValueError.__new__" "ValueError.__init__" bmV K in_OnceError ["code"] := clsO_of lib_V is_OnceError (hi _ (by simp [inL])) (show clsB _ _ _ _ _ _ _ = true from (ex_at (f := cb_OnceError) h (by simp [exL])))
theorem co_Missing (h : exK K = true) (hi : ∀ d ∈ inL, iniW K d.cls = d.val) : ClsO Pr "LookupError" "LookupError.__new__" "LookupError.__init__" bmL K in_Missing ["code"] := clsO_of lib_L is_Missing (hi _ (by simp [inL])) (show clsB _ _ _ _ _ _ _ = true from (ex_at (f := cb_Missing) h (by simp [exL])))
theorem co_InvalidNumber (h : exK K = true) (hi : ∀ d ∈ inL, iniW K d.cls = d.val) : ClsO Pr "ValueError" "ValueError.__new__" "ValueError.__init__" bmV K in_InvalidNumber ["code", "given"] := clsO_of lib_V is_InvalidNumber (hi _ (by simp [inL])) (show clsB _ _ _ _ _ _ _ = true from and1 (ex_at (f := cb_InvalidNumber) h (by simp [exL])))
theorem er_InvalidNumber (T : TopO Pr mg) (h : exK K = true) (hi : ∀ d ∈ inL, iniW K d.cls = d.val) : Err Pr w K mg base 2 (He.ga K "InvalidNumber") "InvalidNumber" ["given"] := err_sub1 T (co_InvalidNumber h hi) (co_OnceError h hi) tx_OnceError tx_InvalidNumber (by decide) (by decide) (and2 (ex_at (f := cb_InvalidNumber) h (by simp [exL])))
theorem co_InvalidTable (h : exK K = true) (hi : ∀ d ∈ inL, iniW K d.cls = d.val) : ClsO Pr "ValueError" "ValueError.__new__" "ValueError.__init__" bmV K in_InvalidTable ["code", "name"] := clsO_of lib_V is_InvalidTable (hi _ (by simp [inL])) (show clsB _ _ _ _ _ _ _ = true from and1 (ex_at (f := cb_InvalidTable) h (by simp [exL])))
theorem er_InvalidTable (T : TopO Pr mg) (h : exK K = true) (hi : ∀ d ∈ inL, iniW K d.cls = d.val) : Err Pr w K mg base 2 (He.ga K "InvalidTable") "InvalidTable" ["name"] := err_sub1 T (co_InvalidTable h hi) (co_OnceError h hi) tx_OnceError tx_InvalidTable (by decide) (by decide) (and2 (ex_at (f := cb_InvalidTable) h (by simp [exL])))
theorem co_InvalidRow (h : exK K = true) (hi : ∀ d ∈ inL, iniW K d.cls = d.val) : ClsO Pr "ValueError" "ValueError.__new__" "ValueError.__init__" bmV K in_InvalidRow ["code", "table", "at"] := clsO_of lib_V is_InvalidRow (hi _ (by simp [inL])) (show clsB _ _ _ _ _ _ _ = true from and1 (ex_at (f := cb_InvalidRow) h (by simp [exL])))
theorem er_InvalidRow (T : TopO Pr mg) (h : exK K = true) (hi : ∀ d ∈ inL, iniW K d.cls = d.val) : Err Pr w K mg base 2 (He.ga K "InvalidRow") "InvalidRow" ["table", "at"] := err_sub2 T (co_InvalidRow h hi) (co_OnceError h hi) tx_OnceError tx_InvalidRow (by decide) (by decide) (by decide) (and2 (ex_at (f := cb_InvalidRow) h (by simp [exL])))
theorem co_InvalidNames (h : exK K = true) (hi : ∀ d ∈ inL, iniW K d.cls = d.val) : ClsO Pr "ValueError" "ValueError.__new__" "ValueError.__init__" bmV K in_InvalidNames ["code", "given"] := clsO_of lib_V is_InvalidNames (hi _ (by simp [inL])) (show clsB _ _ _ _ _ _ _ = true from and1 (ex_at (f := cb_InvalidNames) h (by simp [exL])))
theorem er_InvalidNames (T : TopO Pr mg) (h : exK K = true) (hi : ∀ d ∈ inL, iniW K d.cls = d.val) : Err Pr w K mg base 2 (He.ga K "InvalidNames") "InvalidNames" ["given"] := err_sub1 T (co_InvalidNames h hi) (co_OnceError h hi) tx_OnceError tx_InvalidNames (by decide) (by decide) (and2 (ex_at (f := cb_InvalidNames) h (by simp [exL])))
theorem co_InvalidSaying (h : exK K = true) (hi : ∀ d ∈ inL, iniW K d.cls = d.val) : ClsO Pr "ValueError" "ValueError.__new__" "ValueError.__init__" bmV K in_InvalidSaying ["code", "given"] := clsO_of lib_V is_InvalidSaying (hi _ (by simp [inL])) (show clsB _ _ _ _ _ _ _ = true from and1 (ex_at (f := cb_InvalidSaying) h (by simp [exL])))
theorem er_InvalidSaying (T : TopO Pr mg) (h : exK K = true) (hi : ∀ d ∈ inL, iniW K d.cls = d.val) : Err Pr w K mg base 2 (He.ga K "InvalidSaying") "InvalidSaying" ["given"] := err_sub1 T (co_InvalidSaying h hi) (co_OnceError h hi) tx_OnceError tx_InvalidSaying (by decide) (by decide) (and2 (ex_at (f := cb_InvalidSaying) h (by simp [exL])))
theorem co_InvalidInputs (h : exK K = true) (hi : ∀ d ∈ inL, iniW K d.cls = d.val) : ClsO Pr "ValueError" "ValueError.__new__" "ValueError.__init__" bmV K in_InvalidInputs ["code", "given"] := clsO_of lib_V is_InvalidInputs (hi _ (by simp [inL])) (show clsB _ _ _ _ _ _ _ = true from and1 (ex_at (f := cb_InvalidInputs) h (by simp [exL])))
theorem er_InvalidInputs (T : TopO Pr mg) (h : exK K = true) (hi : ∀ d ∈ inL, iniW K d.cls = d.val) : Err Pr w K mg base 2 (He.ga K "InvalidInputs") "InvalidInputs" ["given"] := err_sub1 T (co_InvalidInputs h hi) (co_OnceError h hi) tx_OnceError tx_InvalidInputs (by decide) (by decide) (and2 (ex_at (f := cb_InvalidInputs) h (by simp [exL])))
theorem co_Unfit (h : exK K = true) (hi : ∀ d ∈ inL, iniW K d.cls = d.val) : ClsO Pr "ValueError" "ValueError.__new__" "ValueError.__init__" bmV K in_Unfit ["code", "name"] := clsO_of lib_V is_Unfit (hi _ (by simp [inL])) (show clsB _ _ _ _ _ _ _ = true from and1 (ex_at (f := cb_Unfit) h (by simp [exL])))
theorem er_Unfit (T : TopO Pr mg) (h : exK K = true) (hi : ∀ d ∈ inL, iniW K d.cls = d.val) : Err Pr w K mg base 2 (He.ga K "Unfit") "Unfit" ["name"] := err_sub1 T (co_Unfit h hi) (co_OnceError h hi) tx_OnceError tx_Unfit (by decide) (by decide) (and2 (ex_at (f := cb_Unfit) h (by simp [exL])))
theorem co_TooMany (h : exK K = true) (hi : ∀ d ∈ inL, iniW K d.cls = d.val) : ClsO Pr "ValueError" "ValueError.__new__" "ValueError.__init__" bmV K in_TooMany ["code", "most"] := clsO_of lib_V is_TooMany (hi _ (by simp [inL])) (show clsB _ _ _ _ _ _ _ = true from and1 (ex_at (f := cb_TooMany) h (by simp [exL])))
theorem er_TooMany (T : TopO Pr mg) (h : exK K = true) (hi : ∀ d ∈ inL, iniW K d.cls = d.val) : Err Pr w K mg base 2 (He.ga K "TooMany") "TooMany" ["most"] := err_sub1 T (co_TooMany h hi) (co_OnceError h hi) tx_OnceError tx_TooMany (by decide) (by decide) (and2 (ex_at (f := cb_TooMany) h (by simp [exL])))
theorem co_UnknownTable (h : exK K = true) (hi : ∀ d ∈ inL, iniW K d.cls = d.val) : ClsO Pr "LookupError" "LookupError.__new__" "LookupError.__init__" bmL K in_UnknownTable ["code", "name"] := clsO_of lib_L is_UnknownTable (hi _ (by simp [inL])) (show clsB _ _ _ _ _ _ _ = true from and1 (ex_at (f := cb_UnknownTable) h (by simp [exL])))
theorem er_UnknownTable (T : TopO Pr mg) (h : exK K = true) (hi : ∀ d ∈ inL, iniW K d.cls = d.val) : Err Pr w K mg base 2 (He.ga K "UnknownTable") "UnknownTable" ["name"] := err_sub1 T (co_UnknownTable h hi) (co_Missing h hi) tx_Missing tx_UnknownTable (by decide) (by decide) (and2 (ex_at (f := cb_UnknownTable) h (by simp [exL])))
end
end LW
set_option Elab.async false
set_option linter.all false
set_option maxRecDepth 100000
set_option maxHeartbeats 4000000
namespace PySem
open Sem (wp)
theorem enum_new1 {v : Value} {o : Obj} {H : Heap → Prop} (B : Begins v o H) :
    Meets (Builtin.«enumerate.__new__» ⟨[.type "enumerate", v], []⟩) (fun _ R s => H s.heap ∧
      R (.ok (.ret (.ref (s.heap.push o).objs.size))) { s with heap := (s.heap.push o).push { cls := .type "enumerate", data := .fields #[.none, .bool false, .ref s.heap.objs.size, rawInt 0, .none, .none] } }) :=
  .of_wp fun prog w A R s h => by
    obtain ⟨hp, g, d, tk, os⟩ := s; obtain ⟨h1, h⟩ := h
    have hsub := sub_enumerate
    have q1 : ∀ {A' : Around} {E : Value → Shared → Prop} {Q : Value → Shared → Prop}, Q (.ref hp.objs.size) ⟨hp.push o, g, d, tk, os⟩ → wpAny (model prog w) A' (pyIter v) Q E ⟨hp, g, d, tk, os⟩ :=
      fun q => B.iter prog w _ _ ⟨hp, g, d, tk, os⟩ _ h1 q
    wp_walk using q1
    refine wpAny_stack_any fun st => wpAny_pure ?_
    split
    · rename_i c _ _ _ _ _
      cases (c == Value.type "enumerate")
      · wp_walk using q1
        exact ⟨_, rfl, h⟩
      · wp_walk using q1
        exact ⟨_, rfl, h⟩
    · wp_walk using q1
      exact ⟨_, rfl, h⟩
theorem enum_begins1 {prog : Program} {w : World} {A : Around} {E : Value → Shared → Prop} {s : Shared} {v : Value} {o : Obj} {H : Heap → Prop} {Q : Value → Shared → Prop} (B : Begins v o H) (h1 : H s.heap)
    (h : ∀ h', IsEnum h' (s.heap.objs.size + 1) s.heap.objs.size 0 .none → h'.get? s.heap.objs.size = some o → h'.objs.size = s.heap.objs.size + 2 →
      (∀ b o, s.heap.get? b = some o → h'.get? b = some o) → Q (.ref (s.heap.objs.size + 1)) { s with heap := h' }) :
    wpAny (model prog w) A (call (.type "enumerate") [v]) Q E s := by
  refine callType_new F.called_enumerate (by decide) (F.typeCall_enumerate_1 _) (F.newCall_enumerate_1 _) (fun obj => F.args_object_init_2 obj _) F.entry_enumerate_new (enum_new1 B) ⟨h1, ?_⟩
  have hz : (s.heap.push o).objs.size = s.heap.objs.size + 1 := Heap.size_push ..
  show _ ∧ _
  rw [hz]
  have he : IsEnum ((s.heap.push o).push { cls := .type "enumerate", data := .fields #[.none, .bool false, .ref s.heap.objs.size, rawInt 0, .none, .none] }) (s.heap.objs.size + 1) s.heap.objs.size 0 .none := by
    have := Heap.get?_push_size (s.heap.push o) (o := { cls := .type "enumerate", data := .fields #[.none, .bool false, .ref s.heap.objs.size, rawInt 0, .none, .none] }) rfl
    rw [hz] at this; exact this
  refine ⟨⟨_, he, rfl⟩, h _ he (Heap.get?_push_of_some _ (Heap.get?_push_size _ B.free)) (by rw [Heap.size_push, hz]) fun b o x => Heap.get?_push_of_some _ (Heap.get?_push_of_some _ x)⟩
end PySem
namespace EV
open PySem PySem.Spec PyProof.Rows L2
def Iten (K : PySem.W.Frag) (r : Src) : It :=
  ⟨fun i H => ∃ (xs : List V) (x : V), SrcAt K H r xs ∧ xs[i]? = some x,
    fun i H v H' => ∃ T x, v = .ref T ∧ H T = none ∧ H' = upd H T (.tup [.int (i : Nat), x]) ∧ ∀ xs, SrcAt K H r xs → xs[i]? = some x,
    fun i H => ∃ xs : List V, SrcAt K H r xs ∧ i = xs.length⟩
theorem turn_en {P : Program} {w : World} {K : PySem.W.Frag} {elts : List Expr} {kk : Nat} {tpos : Pos} {e it : Addr} {r : Src} (hne : e ≠ it) (n1 : it ∉ r.fp) (n2 : e ∉ r.fp) :
    Turn P w K (.Tuple elts kk tpos) (Iten K r) [e, it] e (fun i h => (∃ old, IsEnum h e it ((i : Nat) : Int) old) ∧ r.pos it i h) where
  mem := by simp
  obj := fun i h st c hc => by
    obtain ⟨⟨old, he⟩, p⟩ := st
    have e' : c = e ∨ c = it := by simpa using hc
    rcases e' with q | q
    · rw [q]; exact ⟨_, he, fun v q => nomatch q⟩
    · rw [q]; exact Src.pos_obj p
  keep := fun i h h' st k => by
    obtain ⟨⟨old, he⟩, p⟩ := st
    exact ⟨⟨old, k e (by simp) _ he⟩, Src.pos_at p fun o q => k it (by simp) o q⟩
  item := by
    intro X hP hw hK hc i pins s σ H E I hf st hg
    subst hP hw hK
    obtain ⟨he, p⟩ := st
    obtain ⟨xs, x, q1, hx⟩ := hg
    have hh : X.A.in1.handled = none := I.ok.hd hc
    obtain ⟨fp, P1, St, rfl, D, st1, rel, posn⟩ := src_draws I q1 p X.A.in1 hh n1
    have W := WalksT.enumerateD (A := X.A) D e hne (by simp only [List.mem_cons, not_or]; exact ⟨hne, n2⟩) (by simp)
    have hi : i < xs.length := getElem?_lt hx
    refine W.item i s _ E hi ⟨he, st1⟩ fun T vals h' tk hp hT hTup mid keep => ?_
    refine ⟨_, rfl, W.go elts kk tpos i T { s with heap := h', toks := tk } _ E mid fun h2 stn keep2 => ?_⟩
    obtain ⟨t, u, pu, rfl⟩ := hp
    obtain ⟨x', ex, ru⟩ := rel i u pu
    rw [hx] at ex
    cases ex
    have nT : T ∉ [e, it] := W.apart i T h' mid
    have hT2 : h2.IsTuple T #[.int i t, u] := hTup.at fun o q => keep2 T o nT q
    have new : ObjOk X.prog X.w (upd H T (.tup [.int (i : Nat), x])) h2 T (.tup [.int (i : Nat), x]) := ⟨by show 2 ≤ sizeLine; decide, [.int i t, u], .cons ⟨_, rfl⟩ (.cons ru .nil), hT2⟩
    have I1 : Inv X pins σ (upd H T (.tup [.int (i : Nat), x])) { s with heap := h2, toks := tk } := I.turnedNew (t' := tk) (ch := [e, it]) (fun c o hc q => keep2 c o hc (keep c o hc q)) hf hT new
    refine ⟨.ref T, _, I1, rfl, ⟨T, x, rfl, I.hok.fresh hT, rfl, fun l hl => by rw [src_inj I hl q1]; exact hx⟩, ⟨stn.1, posn _ _ stn.2⟩, fun c hcm => ?_⟩
    have hlt : c < s.heap.objs.size := by
      have e' : c = e ∨ c = it := by simpa using hcm
      rcases e' with q | q
      · obtain ⟨old, he⟩ := he
        rw [q]; exact Heap.lt_size he
      · rw [q]; obtain ⟨o, z, _⟩ := Src.pos_obj p; exact Heap.lt_size z
    rw [upd_ne (Nat.ne_of_lt (Nat.lt_of_lt_of_le hlt hT))]
    exact (hf c hcm).1
  done := by
    intro X hP hw hK hc i pins s σ H E I hf st hg
    subst hP hw hK
    obtain ⟨he, p⟩ := st
    obtain ⟨xs, q1, hend⟩ := hg
    have hh : X.A.in1.handled = none := I.ok.hd hc
    obtain ⟨fp, P1, St, rfl, D, st1, rel, posn⟩ := src_draws I q1 p X.A.in1 hh n1
    have W := WalksT.enumerateD (A := X.A) D e hne (by simp only [List.mem_cons, not_or]; exact ⟨hne, n2⟩) (by simp)
    subst hend
    exact W.done s _ E ⟨he, st1⟩ fun h' tk keep => ⟨rfl, I.turnedL (t' := tk) (ch := [e, it]) (fun c o hc q => keep c o hc q) hf⟩
  self := fun A i s Q E st h => let ⟨⟨_, he⟩, _⟩ := st; wpAny_pyIter_enum he h
section
variable {X : Cx} {L : Pl} {e : Expr} {mA : DA} {pos p : Pos}
def iEn (K : PySem.W.Frag) (ta : TA) : TI := fun σ H R => ta σ H fun vs H1 => ∃ v r, vs = [v] ∧ SrcV v r ∧ (∃ xs, SrcAt K H1 r xs) ∧ R (Iten K r) H1
theorem pi_en {ta : TA} {tpos : Pos} {elts : List Expr} {kk : Nat} (hg : Gl X "enumerate") (hm : X.mg "enumerate" = none) (ha : PA X [e] ta) (hs : starEach [e] X.env = [(false, eval e X.env)]) :
    PI X (.Tuple elts kk tpos) (.Call (.Name "enumerate" p) [e] [] pos) (iEn X.K ta) := by
  refine ⟨fun pins s σ H R I h => ?_⟩
  refine Call_ (ld_blt I hg hm boot_enumerate (PyProof.Rows.callWith_type1 (thn (ha.run pos pins s σ H _ I h) fun us s1 ⟨vs, H1, I1, r1, q1⟩ => ?_) hs rfl))
  obtain ⟨v, c, ex, k1, ⟨xs, a1⟩, q⟩ := q1
  subst ex
  cases r1 with
  | cons r rr =>
    cases rr
    obtain ⟨o1, Hc1, B1, h1, p1, f1⟩ := src_begins I1 k1 a1 r
    refine enum_begins1 B1 h1 fun h' he g1 hsz hk => wpAny_pyIter_enum he ?_
    have nf : ∀ {fp : List Addr} {c : Addr}, (∀ b ∈ fp, b < s1.heap.objs.size) → s1.heap.objs.size ≤ c → c ∉ fp := fun hf hc z => absurd (Nat.lt_of_lt_of_le (hf _ z) hc) (Nat.lt_irrefl _)
    have I2 : Inv X pins σ H1 { s1 with heap := h' } := I1.kept (t' := s1.toks) hk
    refine ⟨s1.heap.objs.size + 1, [s1.heap.objs.size + 1, s1.heap.objs.size], _, _, H1, rfl, I2, turn_en (Nat.succ_ne_self _) (nf f1 (Nat.le_refl _)) (nf f1 (Nat.le_succ _)), ⟨⟨.none, he⟩, p1 _ _ g1⟩, fun b hb => ?_, q⟩
    have e' : b = s1.heap.objs.size + 1 ∨ b = s1.heap.objs.size := by simpa using hb
    have hle : s1.heap.objs.size ≤ b := by
      rcases e' with z | z
      · rw [z]; exact Nat.le_add_right _ _
      · rw [z]; exact Nat.le_refl _
    exact I1.fpOk hle (I1.hok.fresh hle)
/-- the pairs of enumerate -/
def enumL (xs : List D) : List D := xs.zipIdx.map fun p => .tup [.int p.2, p.1]
def enumD : List D → (IL → Prop) → Prop
  | [x], Q => itemsP x fun xs => Q (tt1, enumL xs)
  | _, _ => False
theorem enumD_mo {x : List D} {Q Q' : IL → Prop} (h : ∀ d, Q d → Q' d) (z : enumD x Q) : enumD x Q' := by
  unfold enumD at z ⊢
  split at z
  · exact itemsP_mo (fun _ w => h _ w) z
  · exact z
abbrev dEnum (mA : DA) : DI := fun ρ O Q E => mA ρ O (fun xs O1 => enumD xs fun l => Q l O1) E
theorem itd_en {K : PySem.W.Frag} {B : Bo} {G0 : Hp} {c : Src} {xs : List V} {ds : List D} (r1 : RpL K G0 xs ds) (a1 : ∀ H, Sub G0 H → SrcAt K H c xs) : ItD K B G0 (Iten K c) (tt1, enumL ds) := fun i O G H g sb _ => by
  have sH := sb.trans g.sub
  have hl : (enumL ds).length = xs.length := by simp [enumL, r1.length]
  refine ⟨fun d e => ?_, fun (h : i = (enumL ds).length) => ⟨xs, a1 H sH, by rw [← hl]; exact h⟩⟩
  have e : (enumL ds)[i]? = some d := e
  unfold enumL at e
  rw [List.getElem?_map, List.getElem?_zipIdx] at e
  cases e1 : ds[i]? with
  | none => rw [e1] at e; cases e
  | some d1 =>
    rw [e1] at e
    simp only [Option.map_some, Option.some.injEq, Nat.zero_add] at e
    subst e
    obtain ⟨v1, f1, q1⟩ := r1.get e1
    refine ⟨⟨xs, v1, a1 H sH, f1⟩, fun x H' y => ?_⟩
    obtain ⟨T, x', rfl, nT, rfl, g1⟩ := y
    have h1 := g1 xs (a1 H sH)
    rw [f1] at h1
    cases h1
    have st := Step.new (o := .tup [.int (i : Nat), v1]) g nT
    exact ⟨_, st, new_tup g nT (.cons (.int _) (.cons (q1.mono sb) .nil))⟩
theorem d_enum {tpos : Pos} {elts : List Expr} {kk : Nat} (hg : Gl X "enumerate") (hm : X.mg "enumerate" = none) (ha : DPA X L [e] mA) (hs : starEach [e] X.env = [(false, eval e X.env)]) :
    DPI X L (.Tuple elts kk tpos) (.Call (.Name "enumerate" p) [e] [] pos) (dEnum mA) := by
  refine ⟨fun ρ O Q Q' E E' q hx x => ha.mo ρ _ _ _ _ _ (fun _ _ z => enumD_mo (fun _ => q _ _) z) hx x, pi_imp (pi_en hg hm ha.run hs) fun σ H Q ⟨G, O, ρ, g, rs, q⟩ => ?_⟩
  refine upA_of ha.mo g rs q fun ds vs O1 G1 H1 q1 s1 r1 => ?_
  unfold enumD at q1
  split at q1
  · cases r1 with
    | cons r1 r2 =>
      cases r2
      obtain ⟨c, xs, ds', k1, rl, a1, q1⟩ := src_of r1 q1
      exact ⟨_, c, rfl, k1, ⟨xs, a1 _ s1.good.sub⟩, q1 _ _ _ s1 (itd_en rl a1)⟩
  · exact q1.elim
end
end EV
set_option Elab.async false
set_option linter.all false
set_option maxRecDepth 100000
set_option maxHeartbeats 4000000
namespace EV
open PySem PySem.Spec PyProof.Rows L2
/-! ### dicts of the text, with text keys and plain values -/
def scV : D → Option V
  | .str x => some (.str x)
  | .int i => some (.int i)
  | .bl b => some (.bl b)
  | .non => some .non
  | _ => none
theorem scV_rp {K : PySem.W.Frag} {G : Hp} {d : D} {v : V} (h : scV d = some v) : Rp K G v d := by
  cases d <;> simp [scV] at h <;> subst h
  · exact .non
  · exact .bl _
  · exact .int _
  · exact .str _
def entB : List DictEntry → List (Str × D) → Bool
  | [], [] => true
  | e :: es, (k, d) :: r => (match e.key with
    | .str x _ => decide (x = k)
    | _ => false) && ((match scV d with
    | some v => He.relB v e.val
    | none => false) && entB es r)
  | _, _ => false
def tabB (K : PySem.W.Frag) (a : Addr) (kvs : List (Str × D)) : Bool := match K.lookup a with
  | some ⟨_, _, .dict es _, _⟩ => entB es.toList kvs
  | _ => false
theorem entB_ok : ∀ {l : List DictEntry} {kvs : List (Str × D)}, entB l kvs = true → ∀ z : Str, (match kvs.lookup z with
    | some d => ∃ v u, scV d = some v ∧ (l.find? fun e => Value.isStrOf z e.key).map (·.val) = some u ∧ RelV v u
    | none => (l.find? fun e => Value.isStrOf z e.key).map (·.val) = none)
  | [], [], _, z => rfl
  | e :: es, (k, d) :: r, h, z => by
    unfold entB at h
    simp only [Bool.and_eq_true] at h
    obtain ⟨h1, h2, h3⟩ := h
    split at h1
    · rename_i x t ek
      have ex : x = k := of_decide_eq_true h1
      subst ex
      have hs : Value.isStrOf z e.key = decide (x = z) := by rw [ek]; by_cases q : x = z <;> simp [Value.isStrOf, q]
      rw [List.lookup_cons, List.find?_cons, hs]
      by_cases q : x = z
      · subst q
        simp only [beq_self_eq_true, decide_true, Option.map_some]
        split at h2
        · rename_i v ev
          exact ⟨v, e.val, ev, rfl, He.relB_ok h2⟩
        · cases h2
      · have q1 : (z == x) = false := by simpa using fun y => q y.symm
        simp only [q1, decide_eq_false q]
        exact entB_ok h3 z
    · cases h1
  | [], _ :: _, h, _ => by cases h
  | _ :: _, [], h, _ => by cases h
structure TabK (K : PySem.W.Frag) (w : World) (a : Addr) (kvs : List (Str × D)) : Prop where
  ex : ∃ es n, KDict K w a es n ∧ ∀ z : Str, (match kvs.lookup z with
    | some d => ∃ v u, scV d = some v ∧ findBy Value.isStrOf es z = some u ∧ RelV v u
    | none => findBy Value.isStrOf es z = none)
theorem tabK_of {K : PySem.W.Frag} {w : World} {a : Addr} {kvs : List (Str × D)} {es : Array DictEntry} {n : Nat} (D : KDict K w a es n) (h : tabB K a kvs = true) : TabK K w a kvs := by
  unfold tabB at h
  rw [D.at_] at h
  have h : entB es.toList kvs = true := h
  refine ⟨es, n, D, fun z => ?_⟩
  have := entB_ok h z
  have e : findBy Value.isStrOf es z = (es.toList.find? fun e => Value.isStrOf z e.key).map (·.val) := by
    obtain ⟨l⟩ := es
    unfold findBy
    rw [List.find?_toArray]
  rw [e]
  exact this
section
variable {X : Cx} {L : Pl} {B : Bo} {a b : Expr} {ma mb : DE} {pos : Pos}
/-- x in t, t a dict of the text at ad -/
def inK (ad : Addr) (kvs : List (Str × D)) (f : Bool → Bool) : P2
  | .str z, .opq (.ref p), Q => p = ad ∧ Q (.bl (f (kvs.lookup z).isSome))
  | _, _, _ => False
theorem inK_mo {ad : Addr} {kvs : List (Str × D)} {f : Bool → Bool} : MoO (pu (inK ad kvs f)) := fun O x y Q Q' h z => by
  dsimp only [pu] at z ⊢; unfold inK at z ⊢
  split at z
  · exact ⟨z.1, h _ z.2⟩
  · exact z
theorem find_some {K : PySem.W.Frag} {w : World} {ad : Addr} {kvs : List (Str × D)} {es : Array DictEntry} {z : Str} (h : match kvs.lookup z with
    | some d => ∃ v u, scV d = some v ∧ findBy Value.isStrOf es z = some u ∧ RelV v u
    | none => findBy Value.isStrOf es z = none) : (findBy Value.isStrOf es z).isSome = (kvs.lookup z).isSome := by
  cases e : kvs.lookup z with
  | none => rw [e] at h; rw [h]; rfl
  | some d => rw [e] at h; obtain ⟨v, u, _, h, _⟩ := h; rw [h]; rfl
theorem od_inK {ad : Addr} {kvs : List (Str × D)} (T : TabK X.K X.w ad kvs) : OpD X B (compareOp .In) (pu (inK ad kvs id)) := by
  obtain ⟨es, n, KD, hf⟩ := T.ex
  refine ⟨inK_mo, fun x y H Q => ∃ z, x = .str z ∧ y = .ref ad ∧ Q (.bl (kvs.lookup z).isSome) H, ?_, fun O G H x y a b Q gd r1 r2 q => ?_⟩
  · intro pins s σ H x y v u Q I rx ry h
    obtain ⟨z, rfl, rfl, q⟩ := h
    obtain ⟨t, rfl⟩ := rx
    cases ry
    refine wpAny_in_of (PySem.strKind_is X.prog X.w z t) KD.low (PySem.W.mapOf_K (prog := X.prog) I.kIn KD.at_ KD.lit) ?_
    rw [find_some (K := X.K) (w := X.w) (ad := ad) (hf z)]
    exact ⟨.bl _, H, I.tok _, rfl, q⟩
  · dsimp only [pu] at q; unfold inK at q
    split at q
    · obtain ⟨rfl, q⟩ := q
      cases r1
      cases r2
      exact ⟨_, rfl, rfl, q _ _ _ (Step.refl gd) (.bl _)⟩
    · exact q.elim
/-- t[x] -/
def ixK (ad : Addr) (kvs : List (Str × D)) : P2
  | .opq (.ref p), .str z, Q => p = ad ∧ match kvs.lookup z with
    | some d => Q d
    | none => False
  | _, _, _ => False
theorem d_ixK {ad : Addr} {kvs : List (Str × D)} (T : TabK X.K X.w ad kvs) (ha : DPE X L a ma) (hb : DPE X L b mb) (hs : NoSl b) : DPE X L (.Subscript a b pos) (dOp (pu (ixK ad kvs)) ma mb) := by
  obtain ⟨es, n, KD, hf⟩ := T.ex
  have mo : MoO (pu (ixK ad kvs)) := fun O x y Q Q' h z => by
    dsimp only [pu] at z ⊢; unfold ixK at z ⊢
    split at z
    · refine ⟨z.1, ?_⟩
      obtain ⟨_, z⟩ := z
      split at z
      · exact h _ z
      · exact z
    · exact z
  have hP : PE X (.Subscript a b pos) (tOp (fun x y H Q => ∃ z d v, x = .ref ad ∧ y = .str z ∧ kvs.lookup z = some d ∧ scV d = some v ∧ Q v H) (up X.K L.B L.W ma) (up X.K L.B L.W mb)) := by
    refine ⟨fun pins s σ H Q I h => ?_⟩
    refine subD_of PySem.F.slot_dict_getitem.lookup hs (thn (ha.run.run pins s σ H _ I h) fun u s1 ⟨x, H1, I1, rx, q1⟩ => thn (hb.run.run pins s1 σ H1 _ I1 q1) fun iv s2 ⟨y, H2, I2, ry, z, d, v, ex, ey, el, ev, q2⟩ => ?_)
    subst ex ey
    obtain rfl : u = Value.ref ad := rx
    obtain ⟨t, rfl⟩ := ry
    have hz := hf z
    rw [el] at hz
    obtain ⟨v', u, e1, e2, e3⟩ := hz
    rw [ev] at e1; cases e1
    exact ⟨kd_type KD I2, wpAny_getItem_of (PySem.strKind_is X.prog X.w z t) (PySem.W.mapOf_K (prog := X.prog) I2.kIn KD.at_ KD.lit) e2 ⟨v, H2, I2.tok _, e3, q2⟩⟩
  have hrun : RunO X.K L.B (fun x y H Q => ∃ z d v, x = .ref ad ∧ y = .str z ∧ kvs.lookup z = some d ∧ scV d = some v ∧ Q v H) (pu (ixK ad kvs)) := fun O G H x y a b Q gd r1 r2 q => by
    dsimp only [pu] at q; unfold ixK at q
    split at q
    · rename_i p z
      obtain ⟨rfl, q⟩ := q
      cases r1
      cases r2
      have hz := hf z
      cases ed : kvs.lookup z with
      | none => rw [ed] at q; exact q.elim
      | some d =>
        rw [ed] at q hz
        obtain ⟨v, u, e1, _⟩ := hz
        exact ⟨z, d, v, rfl, rfl, ed, e1, q _ _ _ (Step.refl gd) (scV_rp e1)⟩
    · exact q.elim
  exact ⟨mo_op mo ha.mo hb.mo, pe_imp hP fun σ H Q q => run_op hrun mo ha.mo hb.mo q⟩
/-- a dict of the text, by its name -/
theorem d_gdict {x : Str} {ad : Addr} (hg : Gl X x) (hm : X.mg x = some (.ref ad)) (hd : (x == ("__debug__" : Str)) = false) : DPE X L (.Name x pos) (dC (.opq (.ref ad))) := d_c (v := .ref ad) (pe_glob hg hm rfl hd) fun _ => .opq _
/-! ### tuples of the text -/
end
end EV
set_option Elab.async false
set_option linter.all false
set_option maxRecDepth 100000
set_option maxHeartbeats 4000000
/-! tuple(x), list(x) -/
namespace EV
open PySem PySem.Spec PyProof.Rows L2
abbrev tupD : PC
  | [.lst xs], Q => Q (.tup xs)
  | [.tup xs], Q => Q (.tup xs)
  | _, _ => False
abbrev listD : PC
  | [.lst xs], Q => Q (.lst xs)
  | [.tup xs], Q => Q (.lst xs)
  | _, _ => False
def tupO : DC := fun O xs Q => tupD (xs.map (lk O)) Q
def listO : DC := fun O xs Q => listD (xs.map (lk O)) Q
section
variable {X : Cx} {B : Bo}
theorem tupD_mo {x : List D} {Q Q' : D → Prop} (q : ∀ d, Q d → Q' d) (z : tupD x Q) : tupD x Q' := by
  unfold tupD at z ⊢
  split at z
  · exact q _ z
  · exact q _ z
  · exact z
theorem listD_mo {x : List D} {Q Q' : D → Prop} (q : ∀ d, Q d → Q' d) (z : listD x Q) : listD x Q' := by
  unfold listD at z ⊢
  split at z
  · exact q _ z
  · exact q _ z
  · exact z
theorem one_of {P : List D → (D → Prop) → Prop} {K : PySem.W.Frag} {G : Hp} {O : Ow} {vs : List V} {ds : List D} {Q : D → Prop} (hP : ∀ xs Q, P xs Q → xs.length = 1) (r : RpL K G vs ds) (h : P (ds.map (lk O)) Q) : ∃ v d, vs = [v] ∧ Rp K G v d ∧ P [lk O d] Q := by
  have := hP _ _ h
  cases r with
  | nil => cases this
  | cons r1 r2 => cases r2 with
    | cons _ _ => simp at this
    | nil => exact ⟨_, _, rfl, r1, h⟩
theorem cd_tuple : CallD X B (.type "tuple") tupO := by
  refine ⟨fun O x Q Q' q z => tupD_mo q z, _, call_tuple_of, fun O G H vs ds Q g r h => ?_⟩
  obtain ⟨v, d, rfl, r1, h⟩ := one_of (P := tupD) (fun xs Q h => by unfold tupD at h; split at h <;> first | rfl | exact h.elim) r h
  have rx := lk_rp g r1
  generalize lk O d = d at rx h
  cases d <;> first | exact h.elim | skip
  · obtain ⟨a, vs, rfl, s, l⟩ := rx.lst g.sub
    exact ⟨a, vs, rfl, .inl ⟨.inl (.inl s), fun q n => h _ _ _ (Step.new g n) (new_tup g n l)⟩⟩
  · rcases rx with rx | ⟨p, _, z⟩
    · cases rx with
      | tup s l => exact ⟨_, _, rfl, .inr ⟨g.sub.sqT s, h _ _ _ (Step.refl g) (.tup s l)⟩⟩
    · exact z.elim
theorem cd_list : CallD X B (.type "list") listO := by
  refine ⟨fun O x Q Q' q z => listD_mo q z, _, call_list_of, fun O G H vs ds Q g r h => ?_⟩
  obtain ⟨v, d, rfl, r1, h⟩ := one_of (P := listD) (fun xs Q h => by unfold listD at h; split at h <;> first | rfl | exact h.elim) r h
  have rx := lk_rp g r1
  generalize lk O d = d at rx h
  cases d <;> first | exact h.elim | skip
  · obtain ⟨a, vs, rfl, s, l⟩ := rx.lst g.sub
    exact ⟨a, vs, rfl, .inl (.inl (.inl s)), fun q n => h _ _ _ (Step.new g n) (new_lst g n l)⟩
  · obtain ⟨a, vs, rfl, s, l⟩ := rx.tup g.sub
    exact ⟨a, vs, rfl, .inr s, fun q n => h _ _ _ (Step.new g n) (new_lst g n l)⟩
end
end EV
set_option Elab.async false
set_option linter.all false
set_option maxRecDepth 100000
set_option maxHeartbeats 4000000
set_option pp.maxSteps 400
/-! is_number, is_name -/
namespace LW
open PySem PySem.Spec PyProof.Rows L2 EV
abbrev s_is_number : Stmt := topS 22
abbrev N_is_number : List Str := ["value", "least", "most"]
theorem sc_is_number : FnScope N_is_number ["value", "least", "most"] (defScope s_is_number) := ⟨rfl, rfl, rfl, by decide +kernel, rfl, by decide +kernel, by decide +kernel⟩
def isNum : D → Int → Int → Bool
  | .int i, a, b => decide (a ≤ i) && decide (i ≤ b)
  | _, _, _ => false
def numS : DSp := fun ds O Q _ => ∃ v a b, ds = [v, .int a, .int b] ∧ (tyD v).isSome = true ∧ Q (.bl (isNum v a b)) O
abbrev s_is_name : Stmt := topS 21
abbrev N_is_name : List Str := ["value", "letter"]
theorem sc_is_name : FnScope N_is_name ["value"] (defScope s_is_name) := ⟨rfl, rfl, rfl, by decide +kernel, rfl, by decide +kernel, by decide +kernel⟩
abbrev lettersT : Str := "abcdefghijklmnopqrstuvwxyz"
def isNm : D → Bool
  | .str y => decide (1 ≤ y.length) && decide (y.length ≤ 6) && (co y).all fun c => decide (c ∈ co lettersT)
  | _ => false
def lettB : D → D
  | .str z => .bl (decide ((co z).headD 0 ∈ co lettersT))
  | _ => .non
theorem lettB_one (c : Nat) : lettB (.str ⟨#[c]⟩) = .bl (decide (c ∈ co lettersT)) := by simp [lettB, co]
def nameS : DSp := fun ds O Q _ => ∃ v, ds = [v] ∧ (tyD v).isSome = true ∧ (∀ y, v = .str y → y.length ≤ sizeLine) ∧ Q (.bl (isNm v)) O
section
variable {P : Program} {w : World} {K : PySem.W.Frag} {mg : Str → Option Value} {base : Heap}
theorem ok_is_number {f : Addr} {fd : FuncData} (F : Fun K "is_number" "is_number" s_is_number f fd) (m_isinstance : mg "isinstance" = none) (m_bool : mg "bool" = none) (m_int : mg "int" = none) :
    FnOk P w K mg base CX0 1 f fd ["value", "least", "most"] (spD K numS) := by
  refine fn_pure F sc_is_number (fun ds O Q E h => ?_) (fun cdv A outer s H E hr =>
    (d_sone (d_ret (d_and (d_callB cd_isi rfl m_isinstance boot_isinstance (d_cons (d_var (i := 0) rfl (.inl rfl) (by decide) (by decide)) (d_cons (d_ty rfl m_int boot_int (by decide) (by decide)) d_nil rfl) rfl) (by decide) (by decide) rfl rfl) (d_and (d_not (d_callB cd_isi rfl m_isinstance boot_isinstance (d_cons (d_var (i := 0) rfl (.inl rfl) (by decide) (by decide)) (d_cons (d_ty rfl m_bool boot_bool (by decide) (by decide)) d_nil rfl) rfl) (by decide) (by decide) rfl rfl)) (d_one (d_chain od_le od_le (d_var (i := 1) rfl (.inl rfl) (by decide) (by decide)) (d_var (i := 0) rfl (.inl rfl) (by decide) (by decide)) (d_var (i := 2) rfl (.inl rfl) (by decide) (by decide)) (by with_unfolding_all rfl)))))))) (fun ds O Q E h => ?_) (fun ds O Q E h => h)
  · obtain ⟨v, a, b, rfl, _⟩ := h; rfl
  · obtain ⟨v, a, b, rfl, hv, q⟩ := h
    rw [show startD N_is_number [v, .int a, .int b] = [.sh v, .sh (.int a), .sh (.int b)] from rfl]
    cases v with
    | int i =>
      refine ⟨rfl, rfl, ?_⟩
      refine ⟨rfl, rfl, ?_⟩
      show bc (decide (a ≤ i)) _ _
      by_cases h : a ≤ i
      · rw [decide_eq_true h]
        simp only [isNum, decide_eq_true h, Bool.true_and] at q
        exact q
      · rw [decide_eq_false h]
        simp only [isNum, decide_eq_false h, Bool.false_and] at q
        exact q
    | bl b' => exact ⟨rfl, rfl, rfl, rfl, q⟩
    | non => exact ⟨rfl, rfl, q⟩
    | str => exact ⟨rfl, rfl, q⟩
    | lst => exact ⟨rfl, rfl, q⟩
    | tup => exact ⟨rfl, rfl, q⟩
    | dic => exact ⟨rfl, rfl, q⟩
    | opq => cases hv
    | ins => cases hv
    | exc => cases hv
    | lam => cases hv
theorem ok_is_name {f : Addr} {fd : FuncData} (F : Fun K "is_name" "is_name" s_is_name f fd) (m_isinstance : mg "isinstance" = none) (m_str : mg "str" = none) (m_len : mg "len" = none) (m_all : mg "all" = none)
    {tL tN : Tok} (M_LETTERS : mg "LETTERS" = some (.str lettersT tL)) (M_LONGEST_NAME : mg "LONGEST_NAME" = some (.int 6 tN)) :
    FnOk P w K mg base CX0 1 f fd ["value"] (spD K nameS) := by
  refine fn_pure F sc_is_name (fun ds O Q E h => ?_) (fun cdv A outer s H E hr =>
    (d_scons (d_ifS (DPW.pt (d_wor (d_tnot (d_test (d_callB cd_isi rfl m_isinstance boot_isinstance (d_cons (d_var (i := 0) rfl (.inl rfl) (by decide) (by decide)) (d_cons (d_ty rfl m_str boot_str (by decide) (by decide)) d_nil rfl) rfl) (by decide) (by decide) rfl rfl) (by intro _; rfl))) (d_or1 (d_tnot (d_tchain od_le od_le d_int (d_callB cd_len rfl m_len boot_len (d_cons (d_var (i := 0) rfl (.inl rfl) (by decide) (by decide)) d_nil rfl) (by decide) (by decide) rfl rfl) (d_globI rfl M_LONGEST_NAME (by decide)) (by with_unfolding_all rfl)))))) (d_sone (d_ret d_bl)) d_snil)
      (d_sone (d_ret (d_callB (cd_all rfl) rfl m_all boot_all (d_cons (d_lc rfl sc_is_name.nd (d_iter (d_var (i := 0) rfl (.inl rfl) (by decide) (by decide))) (blkOk_by (own := [("letter", 1)]) (N := N_is_name) (sc := defScope s_is_name) (by decide +kernel)) (fun _ _ _ _ _ => (dg_name (i := 1) sc_is_name.nd rfl (.inl rfl) (.inr rfl))) (fun _ _ _ _ _ => d_ifs0) (fun _ _ _ _ _ => (d_cmp (od_in (hu1 hr)) (d_var (i := 1) rfl (.inl rfl) (by decide) (by decide)) (d_globS rfl M_LETTERS (by decide)) rfl)) (by decide +kernel) (fun _ => rfl)) d_nil rfl) (by decide) (by decide) rfl rfl))))) (fun ds O Q E h => ?_) (fun ds O Q E h => h)
  · obtain ⟨v, rfl, _⟩ := h; rfl
  · obtain ⟨v, rfl, hv, hs, q⟩ := h
    rw [show startD N_is_name [v] = [.sh v, .un] from rfl]
    cases v with
    | str y =>
      have hl := hs y rfl
      refine ⟨rfl, rfl, ?_⟩
      refine ⟨hl, ?_⟩
      show bc (decide ((1 : Int) ≤ (y.length : Int))) _ _
      by_cases h1 : 1 ≤ y.length
      · rw [decide_eq_true (by omega)]
        show bc (!decide ((y.length : Int) ≤ 6)) _ _
        by_cases h2 : y.length ≤ 6
        · rw [decide_eq_true (by omega)]
          simp only [isNm, decide_eq_true h1, decide_eq_true h2, Bool.true_and] at q
          refine lcW_map trivial lettB (fun d md Qy hq => ?_) (by simp [charsD]; exact hl) ?_
          · obtain ⟨c, mc, rfl⟩ := List.mem_map.mp md
            have e := lettB_one c
            rw [e] at hq
            exact hq
          · rw [List.nil_append, charsD, List.map_map]
            rw [show (lettB ∘ fun c => D.str { cps := #[c] }) = fun c => .bl (decide (c ∈ co lettersT)) from funext lettB_one]
            show allD [.lst ((co y).map fun c => D.bl (decide (c ∈ co lettersT)))] (fun d => Q d O)
            refine allD_of (toBs_map (fun c : Nat => decide (c ∈ co lettersT)) _) ?_
            rw [List.all_map]
            exact q
        · rw [decide_eq_false (by omega)]
          simp only [isNm, decide_eq_false h2, Bool.and_false, Bool.false_and] at q
          exact q
      · rw [decide_eq_false (by omega)]
        simp only [isNm, decide_eq_false h1, Bool.false_and] at q
        exact q
    | int => exact ⟨rfl, rfl, q⟩
    | bl b' => exact ⟨rfl, rfl, q⟩
    | non => exact ⟨rfl, rfl, q⟩
    | lst => exact ⟨rfl, rfl, q⟩
    | tup => exact ⟨rfl, rfl, q⟩
    | dic => exact ⟨rfl, rfl, q⟩
    | opq => cases hv
    | ins => cases hv
    | exc => cases hv
    | lam => cases hv
end
end LW
set_option Elab.async false
set_option linter.all false
set_option maxRecDepth 100000
set_option maxHeartbeats 4000000
/-! lambdas made -/
namespace LamX
open PySem PySem.Spec PyProof.Rows L2
/-- a lambda of the def at X: no cell of its own; its own parameters are no names of X's -/
structure LamW (N : List Str) (sc scope : Scope) : Prop where
  kind : scope.kind = .function
  co : scope.isCoroutine = false
  gen : scope.isGenerator = false
  cell : ∀ y ∈ scope.names, y.2 ≠ .cell
  own : ∀ y ∈ scope.names, y.2 = .local → y.1 ∉ N
  free : ∀ y ∈ scope.names, y.2 = .free → sc.names.lookup y.1 = some .cell ∨ sc.names.lookup y.1 = some .free
theorem LamW.has {X : Cx} {scope : Scope} (L : LamW X.N X.env.scope scope) (ok : X.Ok) : ∀ y ∈ scope.names, y.2 = .free → ∃ c, X.env.cells.lookup y.1 = some c := fun y hy e => by
  rcases L.free y hy e with k | k
  · exact ok.has _ (.inl k)
  · exact ok.has _ (.inr k)
end LamX
set_option Elab.async false
set_option linter.all false
set_option maxRecDepth 100000
set_option maxHeartbeats 4000000
/-! lambdas called: from the frame of X, whose cells are as they were -/
namespace LamX
open PySem PySem.Spec PyProof.Rows L2
end LamX
set_option Elab.async false
set_option linter.all false
set_option maxRecDepth 100000
set_option maxHeartbeats 4000000
/-! objects tracked for a while: cv, addresses and the very objects there -/
namespace LamX
open PySem PySem.Spec PyProof.Rows L2
abbrev Cv := Addr → Option Obj
/-- the entries of cv stand in H -/
def Has (H : Hp) (cv : Cv) : Prop := ∀ a o, cv a = some o → H a = some (.frz o (.own 0))
end LamX
set_option Elab.async false
set_option linter.all false
set_option maxRecDepth 100000
set_option maxHeartbeats 4000000
/-! raise E(..), defs that raise -/
namespace L2
open PySem PySem.Spec PyProof.Rows PySem.XO
section
variable {X : Cx} {C : Addr} {code : Str} {names : List Str} {n : Nat} {x : Str} {a : Expr} {es : List Expr} {t : TA} {p pos : Pos}
def tMkE (C : Addr) (code : Str) (names : List Str) (t : TA) : St → Hp → XK → Prop := fun σ H Q => t σ H fun vs H1 => vs.length = names.length ∧ ∀ d, H1 d = none → Q (.ref C) (some d) (upd H1 d (.xd (errF code names vs)))
theorem mk_run {pins : List (Addr × Obj)} {σ : St} {H : Hp} {s : Shared} {Q : XK} {us : List Value} {vs : List V} (Er : Err X.prog X.w X.K X.mg X.base n C code names) (hr : Room n X.A) (I : Inv X pins σ H s) (r : Vals vs us) (hl : vs.length = names.length)
    (h : ∀ d, H d = none → Q (.ref C) (some d) (upd H d (.xd (errF code names vs)))) : wpAny (model X.prog X.w) X.A (call (.ref C) us) (MkP X pins σ Q) X.xe s := by
  refine wpAny_call (Er.run I.ok.mod us (by rw [← r.length]; exact hl) X.A _ s I.bk I.nolimit (by have := hr.dp; omega) fun h' tk e d mA t hm M => ?_)
  obtain ⟨t1, ho⟩ := M.obj
  show MkP X pins σ Q (.ref e) { s with heap := h', toks := tk }
  obtain ⟨G', g1, g2⟩ := restrict h' fun b => decide (b ≠ e)
  have gk : ∀ b, b ≠ e → G'.get? b = h'.get? b := fun b hb => g1 b (decide_eq_true hb)
  have ge : G'.get? e = none := g2 e (by simp)
  have old : ∀ b o, s.heap.get? b = some o → G'.get? b = some o := fun b o q => (gk b (Nat.ne_of_lt (Nat.lt_of_lt_of_le (Heap.lt_size q) M.new))).trans (M.keep b o q)
  have ob : ObjOk X.prog X.w (upd H d (.xd (errF code names vs))) G' d (.xd (errF code names vs)) :=
    ⟨mA, M.ns.at (fun o q => (gk d M.dne).trans q), fun f => by rw [hm f]; exact relO_err r⟩
  have J : Inv X pins σ (upd H d (.xd (errF code names vs))) { s with heap := G', toks := tk } := I.laid (t' := tk) old M.dbig ob
  refine ⟨e, _, _, { s with heap := G', toks := tk }, _, .ref C, some d, rfl, J, fun b o q => ?_, ge, ho, ⟨rfl, rfl⟩, rfl, rfl, ?_, rfl, I.bare, raises_own Er.exC Er.tyC, h d (I.hok.fresh M.dbig)⟩
  · by_cases hb : b = e
    · have q' : G'.get? b = some o := q
      rw [hb, ge] at q'; cases q'
    · have q' : G'.get? b = some o := q
      rw [gk b hb] at q'
      exact q'
  · rw [upd_ne (fun z => M.dne z.symm)]
    exact I.hok.fresh M.new
theorem pmk_err (Er : Err X.prog X.w X.K X.mg X.base n C code names) (hr : Room n X.A) (hg : Gl X x) (hm : X.mg x = some (.ref C)) (ha : PA X (a :: es) t) (hdb : (x == ("__debug__" : Str)) = false) (he : starEach (a :: es) X.env = (false, eval a X.env) :: starEach es X.env) (hpl : (backTo pos (starEach es X.env)).any (·.1) = false) :
    PMk X (.Call (.Name x p) (a :: es) [] pos) (tMkE C code names t) := by
  intro pins s σ H Q I h
  refine wpAny_Call_Name_kw (ld_glob I hg hm ?_ hdb)
  refine PySem.W.callWith_K (h₀ := X.base) I.ok.mod.kin Er.kp (thn (ha.run pos pins s σ H _ I h) fun us s1 ⟨vs, H1, I1, r, hl, q⟩ => ⟨I1.kIn, ?_⟩) he hpl
  exact mk_run Er hr I1 r hl q
end
end L2
namespace EV
open PySem PySem.Spec PyProof.Rows L2
section
variable {X : Cx} {L : Pl} {C : Addr} {code : Str} {names : List Str} {n : Nat} {x : Str} {a : Expr} {es : List Expr} {mA : DA} {p pos pos2 : Pos}
variable {K : PySem.W.Frag} {B : Bo} {O : Ow} {G H : Hp}
abbrev Tk (X : Cx) (L : Pl) : Prop := Takes X (fun cls d σ H => L.W σ cls d H)
abbrev dRaise (C : Addr) (code : Str) (names : List Str) (mA : DA) : DS := fun A ρ O => mA ρ O (fun ds O1 => ds.length = names.length ∧ A.ex (C, errD code names ds) ρ O1) (fun x O1 => A.ex x ρ O1)
theorem exd_new {d : Addr} {vs : List V} {ds : List D} (g : Good K B O G H) (r : RpL K G vs ds) (nd : H d = none) :
    Step K B O G H O (upd G d (.xd (errF code names vs))) (upd H d (.xd (errF code names vs))) ∧ RpF K (upd G d (.xd (errF code names vs))) (errF code names vs) (errD code names ds) := by
  have s1 := Step.new (o := .xd (errF code names vs)) g nd
  exact ⟨s1, .cons (.str _) (RpF.zip (r.mono s1.grow))⟩
theorem d_raise (hc : X.calm = true) (tk : Tk X L) (Er : Err X.prog X.w X.K X.mg X.base n C code names) (hr : Room n X.A) (hg : Gl X x) (hm : X.mg x = some (.ref C)) (ha : DPA X L (a :: es) mA) (hdb : (x == ("__debug__" : Str)) = false) (he : starEach (a :: es) X.env = (false, eval a X.env) :: starEach es X.env) (hpl : (backTo pos (starEach es X.env)).any (·.1) = false) :
    DPS X L (.Raise (some (.Call (.Name x p) (a :: es) [] pos)) none pos2) (dRaise C code names mA) := by
  refine ⟨fun A A' ρ O l z => ha.mo _ _ _ _ _ _ (fun d O1 y => ⟨y.1, l.ex _ _ _ y.2⟩) (fun x _ y => l.ex _ _ _ y) z, ps_imp (ps_raise hc tk (pmk_err Er hr hg hm ha.run hdb he hpl)) fun Dn σ H ⟨G, O, ρ, g, rs, q⟩ => ?_⟩
  refine upAE ha.mo g rs q fun ds vs O1 G1 H1 q1 s1 r1 => ⟨by rw [r1.length]; exact q1.1, fun d nd => ?_⟩
  obtain ⟨s2, r2⟩ := exd_new (code := code) (names := names) s1.good r1 nd
  exact q1.2 σ d _ _ _ (s1.trans s2) (rs.step (s1.trans s2)) upd_same r2
end
/-! ### defs that may raise -/
section
variable {P : Program} {w : World} {K : PySem.W.Frag} {mg : Str → Option Value} {base : Heap}
theorem fn_exc {x qual : Str} {st : Stmt} {f : Addr} {fd : FuncData} {N ps : List Str} {k : Nat} {sp : DSp} {ms : DS} (Fn : Fun K x qual st f fd) (S : FnScope N ps (defScope st)) (len : ∀ ds O Q E, sp ds O Q E → ds.length = ps.length)
    (hb : ∀ (cdv : Value) (A : Around) (outer : List Env) (s : Shared) (H : Hp) (E : XK), Room k (A.deeper (envOfC qual (defScope st) s.heap.objs.size f cdv)) → Tk (cxOf (L2.CX P w) P w K mg base N qual (defScope st) f cdv A outer s H E) ⟨bo0, fun _ => E⟩ →
      DPSs (cxOf (L2.CX P w) P w K mg base N qual (defScope st) f cdv A outer s H E) ⟨bo0, fun _ => E⟩ (defBody st) ms)
    (h : ∀ ds O Q E, sp ds O Q E → ms (endsD Q E) (startD N ds) O) : FnOk P w K mg base (L2.CX P w) (k + 1) f fd ps (spD K sp) := by
  refine Fn.okX S (fun vs H Q E ⟨G, O, ds, g, r, Q0, E0, h0, _⟩ => ?_) (fun cdv A outer s H vs Q E hr ⟨G, O, ds, g, r, Q0, E0, h0, hq, hx⟩ => ?_)
  · rw [r.length]; exact len _ _ _ _ h0
  · have b := hb cdv A outer s H E hr (takes_of rfl rfl rfl rfl)
    refine ⟨_, b.run, G, O, startD N ds, g, start_rp r, b.mo (endsD Q0 E0) _ _ _ ⟨fun ρ O1 z σ' G' H' s _ => hq _ _ z _ G' H' s .non, fun d O1 z v G' H' s rv => hq _ _ z v G' H' s rv, fun _ _ z => z.elim, fun _ _ z => z.elim, fun x ρ _ z σ' d fs G' H' s _ a rf => hx _ _ z d fs G' H' s a rf⟩ (h ds O Q0 E0 h0)⟩
theorem tk_pass {X : Cx} {L : Pl} (tk : Tk X L) (σ : L2.St) : PassesAt (L2.CX X.prog X.w) X σ (L.W σ) := passAt (W := fun cls d σ H => L.W σ cls d H) tk σ
end
end EV
set_option Elab.async false
set_option linter.all false
set_option maxRecDepth 100000
set_option maxHeartbeats 4000000
/-! data behind entries that come and go -/
namespace EV
open PySem PySem.Spec PyProof.Rows L2 LamX
end EV
set_option Elab.async false
set_option linter.all false
set_option maxRecDepth 100000
set_option maxHeartbeats 4000000
namespace EV
open PySem PySem.Spec PyProof.Rows L2 LamX
section
variable {K : PySem.W.Frag} {B : Bo} {O O' : Ow} {G H G' H' : Hp} {cv : Cv}
theorem Has.sub (s : Sub G H) (h : Has G cv) : Has H cv := fun a o e => s _ _ (h a o e)
end
/-! ### what is promised of a lambda's call -/
end EV
set_option Elab.async false
set_option linter.all false
set_option maxRecDepth 100000
set_option maxHeartbeats 4000000
namespace EV
open PySem PySem.Spec PyProof.Rows L2 LamX
/-! ### X's cells, tracked -/
/-! ### defs that take lambdas -/
end EV
set_option Elab.async false
set_option linter.all false
set_option maxRecDepth 100000
set_option maxHeartbeats 4000000
namespace EV
open PySem PySem.Spec PyProof.Rows L2 LamX
end EV
set_option Elab.async false
set_option linter.all false
set_option maxRecDepth 100000
set_option maxHeartbeats 4000000
/-! try: body / except (x1, x2, x3) as n: suite, where the clause takes whatever the body raises -/
namespace L2
open PySem PySem.Spec PyProof.Rows
end L2
set_option Elab.async false
set_option linter.all false
set_option maxRecDepth 100000
set_option maxHeartbeats 4000000
/-! defs called in an except suite, by value -/
namespace L2
open PySem PySem.Spec PyProof.Rows
end L2
namespace EV
open PySem PySem.Spec PyProof.Rows L2 LamX
/-! ### an exception tracked for a call -/
end EV
set_option Elab.async false
set_option linter.all false
set_option maxRecDepth 100000
set_option maxHeartbeats 4000000
namespace EV
open PySem PySem.Spec PyProof.Rows L2 LamX
end EV
set_option Elab.async false
set_option linter.all false
set_option maxRecDepth 100000
set_option maxHeartbeats 4000000
namespace EV
open PySem PySem.Spec PyProof.Rows L2 LamX
end EV
set_option Elab.async false
set_option linter.all false
set_option maxRecDepth 100000
set_option maxHeartbeats 4000000
namespace EV
open PySem PySem.Spec PyProof.Rows L2 LamX
end EV
set_option Elab.async false
set_option linter.all false
set_option maxRecDepth 100000
set_option maxHeartbeats 4000000
/-! dicts that may change: {}, d[k], d.get(k), d.get(k, x), d[k] = v, k in d -/
namespace EV
open PySem PySem.Spec PyProof.Rows L2
def kD : Key → D
  | .inl i => .int i
  | .inr x => .str x
def valD (kds : List (Key × D)) (k : Key) : Option D := (kds.find? fun kv => decide (kv.1 = k)).map (·.2)
def putKD (kds : List (Key × D)) (k : Key) (v : D) : List (Key × D) :=
  if (kds.any fun kv => decide (kv.1 = k)) = true then kds.map (fun kv => if kv.1 = k then (kv.1, v) else kv) else kds ++ [(k, v)]
section
variable {K : PySem.W.Frag} {G H : Hp} {O : Ow} {B : Bo}
theorem kD_rp {k : Key} {v : V} (r : Rp K G v (kD k)) : v = kV k := by
  cases k <;> cases r <;> rfl
theorem RpK.length : ∀ {fs : List (Key × V)} {ds : List (Key × D)}, RpK K G fs ds → fs.length = ds.length
  | _, _, .nil => rfl
  | _, _, .cons _ r => congrArg (· + 1) (RpK.length r)
theorem RpK.val {k : Key} : ∀ {fs : List (Key × V)} {ds : List (Key × D)}, RpK K G fs ds → (∀ d, valD ds k = some d → ∃ v, valV fs k = some v ∧ Rp K G v d) ∧ (valD ds k = none → valV fs k = none)
  | _, _, .nil => ⟨fun d e => (nomatch e), fun _ => rfl⟩
  | _, _, .cons (k := j) (d := d0) (ds := ds) r t => by
    by_cases e : j = k
    · refine ⟨fun d h => ?_, fun h => ?_⟩
      · have : valD ((j, d0) :: ds) k = some d0 := by simp [valD, List.find?_cons, e]
        rw [this] at h; cases h
        exact ⟨_, valV_pos e, r⟩
      · have : valD ((j, d0) :: ds) k = some d0 := by simp [valD, List.find?_cons, e]
        rw [this] at h; cases h
    · have h1 : valD ((j, d0) :: ds) k = valD ds k := by simp [valD, List.find?_cons, e]
      have ih := RpK.val (k := k) t
      rw [h1]
      refine ⟨fun d h => ?_, fun h => ?_⟩
      · obtain ⟨v, a, b⟩ := ih.1 d h
        exact ⟨v, by rw [valV_neg e]; exact a, b⟩
      · rw [valV_neg e]; exact ih.2 h
theorem RpK.any {k : Key} : ∀ {fs : List (Key × V)} {ds : List (Key × D)}, RpK K G fs ds → (fs.any fun kv => decide (kv.1 = k)) = (ds.any fun kv => decide (kv.1 = k))
  | _, _, .nil => rfl
  | _, _, .cons r t => by simp only [List.any_cons, RpK.any t]
theorem RpK.app : ∀ {xs ys : List (Key × V)} {us ws : List (Key × D)}, RpK K G xs us → RpK K G ys ws → RpK K G (xs ++ ys) (us ++ ws)
  | _, _, _, _, .nil, s => s
  | _, _, _, _, .cons r t, s => .cons r (RpK.app t s)
theorem RpK.mapv {k : Key} {v : V} {d : D} (r : Rp K G v d) : ∀ {fs : List (Key × V)} {ds : List (Key × D)}, RpK K G fs ds → RpK K G (fs.map fun kv => if kv.1 = k then (kv.1, v) else kv) (ds.map fun kv => if kv.1 = k then (kv.1, d) else kv)
  | _, _, .nil => .nil
  | _, _, .cons (k := j) r0 t => by
    simp only [List.map_cons]
    by_cases e : j = k
    · simp only [if_pos e]; exact .cons r (RpK.mapv r t)
    · simp only [if_neg e]; exact .cons r0 (RpK.mapv r t)
theorem RpK.put {k : Key} {v : V} {d : D} {fs : List (Key × V)} {ds : List (Key × D)} (r : Rp K G v d) (t : RpK K G fs ds) : RpK K G (putK fs k v) (putKD ds k d) := by
  unfold putK putKD
  rw [t.any]
  split
  · exact RpK.mapv r t
  · exact t.app (.cons r .nil)
end
section
variable {X : Cx} {L : Pl} {a b c e f o i : Expr} {m ma mb mc : DE} {pos pos' apos cpos : Pos}
/-- what a dict has at a key -/
def atDic (x y : D) (Q : Option D → Prop) : Prop := match x with
  | .dic kds => ∃ k, y = kD k ∧ Q (valD kds k)
  | _ => False
theorem atDic_mo {x y : D} {Q Q' : Option D → Prop} (h : ∀ d, Q d → Q' d) (z : atDic x y Q) : atDic x y Q' := by
  unfold atDic at z ⊢
  split at z
  · obtain ⟨k, e, z⟩ := z; exact ⟨k, e, h _ z⟩
  · exact z
theorem atDic_run {K : PySem.W.Frag} {B : Bo} {O : Ow} {G H : Hp} {x y : D} {vx vy : V} {Q : Option D → Prop} (g : Good K B O G H) (rx : Rp K G vx x) (ry : Rp K G vy y) (h : atDic (lk O x) y Q) :
    ∃ (p : Addr) (r : Option V) (d : Option D), vx = .ref p ∧ DGet H p vy r ∧ Q d ∧ (∀ d', d = some d' → ∃ v, r = some v ∧ Rp K G v d') ∧ (d = none → r = none) := by
  have rr := lk_rp g rx
  generalize lk O x = x' at rr h
  unfold atDic at h
  split at h
  · obtain ⟨k, rfl, h⟩ := h
    obtain ⟨p, vs, rfl, hp, rk⟩ := rr.dic g.sub
    have := kD_rp ry
    subst this
    exact ⟨p, _, _, rfl, .inl ⟨_, k, hp, rfl, rfl⟩, h, rk.val.1, rk.val.2⟩
  · exact h.elim
abbrev dDGet (ma mb : DE) : DE := fun ρ O Q E => ma ρ O (fun x O1 => mb ρ O1 (fun y O2 => atDic (lk O2 x) y fun d => match d with
  | some d => Q d O2
  | none => False) E) E
theorem d_dget (hu : X.A.units + 1 < cLine) (ha : DPE X L a ma) (hb : DPE X L b mb) (hs : NoSl b) : DPE X L (.Subscript a b pos) (dDGet ma mb) := by
  refine ⟨fun ρ O Q Q' E E' q hx x => ha.mo ρ _ _ _ _ _ (fun _ _ z => hb.mo ρ _ _ _ _ _ (fun _ _ y => atDic_mo (fun d w => by cases d <;> first | exact w | exact q _ _ w) y) hx z) hx x, pe_imp (pe_dget hu ha.run hb.run hs) fun σ H Q ⟨G, O, ρ, g, rs, q⟩ => ?_⟩
  refine up_of ha.mo g rs q fun x vx O1 G1 H1 q1 s1 r1 => ?_
  refine up_of hb.mo s1.good (rs.step s1) (mo_step hb.mo s1 q1) fun y vy O2 G2 H2 q2 s2 r2 => ?_
  obtain ⟨p, r, d, rfl, hg, hq, h1, h2⟩ := atDic_run s2.good (r1.mono s2.grow) r2 q2
  cases d with
  | none => exact hq.elim
  | some d =>
    obtain ⟨v, rfl, rv⟩ := h1 d rfl
    exact ⟨p, v, rfl, hg, hq _ _ _ (s1.trans s2) rv⟩
end
end EV
set_option Elab.async false
set_option linter.all false
set_option maxRecDepth 100000
set_option maxHeartbeats 4000000
/-! handles that are let go; instances with keywords; defs that raise and let handles go -/
namespace EV
open PySem PySem.Spec PyProof.Rows L2
def OSub (O1 O : Ow) : Prop := ∀ p d, O1 p = some d → O p = some d
theorem OSub.refl (O : Ow) : OSub O O := fun _ _ h => h
theorem OSub.trans {A B C : Ow} (a : OSub A B) (b : OSub B C) : OSub A C := fun p d h => b p d (a p d h)
theorem OSub.new {O : Ow} {p : Addr} {d : D} (n : O p = none) : OSub O (oset O p d) := fun q x h => by
  rw [oset_ne (fun e => by rw [e, n] at h; cases h)]; exact h
theorem OSub.none {O1 O : Ow} (s : OSub O1 O) {p : Addr} (h : O p = none) : O1 p = none := by
  cases e : O1 p with
  | none => rfl
  | some d => rw [s p d e] at h; cases h
def frg {α : Type} (Q : α → Ow → Prop) : α → Ow → Prop := fun d O => ∃ O1, OSub O1 O ∧ Q d O1
theorem frg.of {α : Type} {Q : α → Ow → Prop} {d : α} {O : Ow} (h : Q d O) : frg Q d O := ⟨O, OSub.refl O, h⟩
section
variable {K : PySem.W.Frag} {B : Bo} {O O' O1 : Ow} {G H G' H' : Hp}
theorem Good.frg (s : OSub O1 O) (g : Good K B O G H) : Good K B O1 G H := ⟨g.sub, g.box, g.amb, fun p d e => g.own p d (s p d e)⟩
theorem Step.frg (s : OSub O1 O') (t : Step K B O G H O' G' H') : Step K B O G H O1 G' H' :=
  ⟨t.grow, t.good.frg s, t.keep, fun a o h g n => ⟨(t.hid a o h g n).1, s.none (t.hid a o h g n).2⟩, t.still⟩
theorem kv.frg {Q : VK} {d : D} (h : frg (kv K B O G H Q) d O') : kv K B O G H Q d O' := by
  obtain ⟨O1, s, h⟩ := h
  exact fun v G' H' t r => h v G' H' (t.frg s) r
theorem kx.frg {E : XK} {x : Xc} (h : frg (kx K B O G H E) x O') : kx K B O G H E x O' := by
  obtain ⟨O1, s, h⟩ := h
  exact fun d fs G' H' t a r => h d fs G' H' (t.frg s) a r
theorem frg_mo {α : Type} {Q Q' : α → Ow → Prop} (q : ∀ d O, Q d O → Q' d O) {d : α} {O : Ow} (h : EV.frg Q d O) : EV.frg Q' d O := by
  obtain ⟨O1, s, h⟩ := h
  exact ⟨O1, s, q _ _ h⟩
/-- C(..), shown; what was begun is let go where it fails -/
def mkG (C : Addr) (sp : DSp) (ds : List D) (O : Ow) (Q : QD) (E : QX) : Prop := ∀ p, O p = none → spM sp (.opq (.ref p) :: ds) (oset O p (.ins C [])) (fun d O2 => d = .non ∧ ∃ C' fs, O2 p = some (.ins C' fs) ∧ Q (.ins C' fs) (odel O2 p)) (frg E)
theorem mkG_mo {C : Addr} {sp : DSp} {ds : List D} {Q Q' : QD} {E E' : QX} (q : ∀ d O, Q d O → Q' d O) (x : ∀ d O, E d O → E' d O) (h : mkG C sp ds O Q E) : mkG C sp ds O Q' E' := fun p n => spM_mo (fun _ _ z => ⟨z.1, let ⟨y, y', a, b⟩ := z.2; ⟨y, y', a, q _ _ b⟩⟩) (fun _ _ z => frg_mo x z) (h p n)
theorem run_mkG {C x dx : Addr} {sp : DSp} {vs : List V} {ds : List D} {Q : VK} {E : XK} (g : Good K B O G H) (r : RpL K G vs ds) (nx : H x = none) (nd : H dx = none) (hd : dx ≠ x) (h : mkG C sp ds O (kv K B O G H Q) (kx K B O G H E)) :
    spD K sp (.ref x :: vs) (upd (upd H dx (.own x)) x (.ins C dx [])) (fun v H' => v = .non ∧ Q (.ref x) H') E := by
  refine run_mkF g r nx nd hd fun p n => spM_mo (fun _ _ z => z) (fun _ _ z => kx.frg z) (h p n)
end
section
variable {X : Cx} {L : Pl} {e : Expr} {es : List Expr} {mA mK : DA} {pos p : Pos}
theorem d_makeG {CX : CXT} {k n : Nat} {C f : Addr} {fd : FuncData} {ps ks : List Str} {sp : DSp} {x : Str} {E : XK} {kws : List Keyword} {g : List Value → List Value → List Value} {gV : List V → List V → List V} {gD : List D → List D → List D} (hE : ∀ σ, L.W σ = E) (M : Mk X.K C f) (Fn : FnOk X.prog X.w X.K X.mg X.base CX k f fd ps (spD X.K sp)) (hr : Room (k + 1) X.A) (hg : Gl X x) (hm : X.mg x = some (.ref C)) (hb : KBn X.K fd ps (n + 1) ks g gV)
    (hgD : ∀ (K : PySem.W.Frag) (G : Hp) (v : V) (vs zs : List V) (ds es : List D), RpL K G vs ds → RpL K G zs es → vs.length = n → zs.length = ks.length → ∃ ws, gV (v :: vs) zs = v :: ws ∧ RpL K G ws (gD ds es)) (hx : Passes CX X E)
    (ha : DPA X L (e :: es) mA) (hk : DPK X L kws mK) (hall : (backToKw pos (keywordEach kws X.env)).all (·.1.isSome) = true) (hks : (backToKw pos (keywordEach kws X.env)).filterMap (·.1) = ks) (hdb : (x == ("__debug__" : Str)) = false)
    (he : starEach (e :: es) X.env = (false, eval e X.env) :: starEach es X.env) (hpl : ((backTo pos (starEach (e :: es) X.env)).any (·.1) || (backToKw pos (keywordEach kws X.env)).any (·.1.isNone)) = false) :
    DPE X L (.Call (.Name x p) (e :: es) kws pos) (dMkK C n ks.length (fun ds zs _ => mkG C sp (gD ds zs)) mA mK) := by
  refine ⟨fun ρ O Q Q' E E' q hx x => ha.mo ρ _ _ _ _ _ (fun _ _ z => hk.mo ρ _ _ _ _ _ (fun _ _ y => ⟨y.1, y.2.1, mkG_mo q hx y.2.2⟩) hx z) hx x, pe_imp (pe_makeK M Fn hr hg hm hb hx ha.run hk.run hall hks hdb he hpl) fun σ H Q ⟨G, O, ρ, g, rs, q⟩ => ?_⟩
  refine upA_of ha.mo g rs q fun xs vs O1 G1 H1 q1 s1 r1 => ?_
  refine upA_of hk.mo s1.good (rs.step s1) (mo_step hk.mo s1 q1) fun zs ws O2 G2 H2 q2 s2 r2 => ?_
  obtain ⟨l1, l2, q2⟩ := q2
  refine ⟨by rw [r1.length]; exact l1, by rw [r2.length]; exact l2, fun x dx nx nd hd => ?_⟩
  obtain ⟨us, e1, r3⟩ := hgD _ _ (.ref x) _ _ _ _ (r1.mono s2.grow) r2 (by rw [r1.length]; exact l1) (by rw [r2.length]; exact l2)
  rw [e1]
  have s12 := s1.trans s2
  exact run_mkG s2.good r3 nx nd hd (mkG_mo (fun _ _ z => z.step s12) (fun _ _ z => by rw [hE] at z; exact z.step s12) q2)
end
section
variable {P : Program} {w : World} {K : PySem.W.Frag} {mg : Str → Option Value} {base : Heap}
theorem fn_excF {x qual : Str} {st : Stmt} {f : Addr} {fd : FuncData} {N ps : List Str} {k : Nat} {sp : DSp} {ms : DS} (Fn : Fun K x qual st f fd) (S : FnScope N ps (defScope st)) (len : ∀ ds O Q E, sp ds O Q E → ds.length = ps.length)
    (hb : ∀ (cdv : Value) (A : Around) (outer : List Env) (s : Shared) (H : Hp) (E : XK), Room k (A.deeper (envOfC qual (defScope st) s.heap.objs.size f cdv)) → Tk (cxOf (L2.CX P w) P w K mg base N qual (defScope st) f cdv A outer s H E) ⟨bo0, fun _ => E⟩ →
      DPSs (cxOf (L2.CX P w) P w K mg base N qual (defScope st) f cdv A outer s H E) ⟨bo0, fun _ => E⟩ (defBody st) ms)
    (h : ∀ ds O Q E, sp ds O Q E → ms (endsD (frg Q) (frg E)) (startD N ds) O) : FnOk P w K mg base (L2.CX P w) (k + 1) f fd ps (spD K sp) := by
  refine Fn.okX S (fun vs H Q E ⟨G, O, ds, g, r, Q0, E0, h0, _⟩ => ?_) (fun cdv A outer s H vs Q E hr ⟨G, O, ds, g, r, Q0, E0, h0, hq, hx⟩ => ?_)
  · rw [r.length]; exact len _ _ _ _ h0
  · have b := hb cdv A outer s H E hr (takes_of rfl rfl rfl rfl)
    refine ⟨_, b.run, G, O, startD N ds, g, start_rp r, b.mo (endsD (frg Q0) (frg E0)) _ _ _ ⟨fun ρ O1 z σ' G' H' s _ => kv.frg (frg_mo hq z) _ G' H' s .non, fun d O1 z v G' H' s rv => kv.frg (frg_mo hq z) v G' H' s rv, fun _ _ z => z.elim, fun _ _ z => z.elim, fun x ρ _ z σ' d fs G' H' s _ a rf => kx.frg (frg_mo hx z) d fs G' H' s a rf⟩ (h ds O Q0 E0 h0)⟩
end
end EV
set_option Elab.async false
set_option linter.all false
set_option maxRecDepth 100000
set_option maxHeartbeats 4000000
/-! lambdas of a law: what they do, given to a def -/
namespace EV
open PySem PySem.Spec PyProof.Rows L2 LamX
section
variable {X : Cx} {L : Pl}
theorem passF {P : Program} {w : World} : Passes (L2.CX P w) X (fun _ _ _ => False) := fun _ _ _ _ _ _ _ ⟨_, _, _, _, _, _, _, _, _, _, _, _, h⟩ => h.elim
end
end EV
set_option Elab.async false
set_option linter.all false
set_option maxRecDepth 100000
set_option maxHeartbeats 4000000
/-! [*x, ..] -/
namespace EV
open PySem PySem.Spec PyProof.Rows L2 StX
end EV
set_option Elab.async false
set_option linter.all false
set_option maxRecDepth 100000
set_option maxHeartbeats 4000000
/-! len(x) by an own __len__; x[::k] -/
namespace EV
open PySem PySem.Spec PyProof.Rows L2
section
variable {X : Cx}
/-! ### x[::k] -/
variable {L : Pl} {e st : Expr} {m mk : DE} {pos : Pos}
theorem RpL.rev {K : PySem.W.Frag} {G : Hp} : ∀ {vs : List V} {ds : List D}, RpL K G vs ds → RpL K G vs.reverse ds.reverse
  | _, _, .nil => .nil
  | _, _, .cons r1 r2 => by
    rw [List.reverse_cons, List.reverse_cons]
    exact (RpL.rev r2).append (.cons r1 .nil)
end
end EV
set_option Elab.async false
set_option linter.all false
set_option maxRecDepth 100000
set_option maxHeartbeats 4000000
/-! [e for a in xs for b in ys] -/
namespace EV
open PySem PySem.Spec PyProof.Rows L2
/-- what is gathered so far, at Dd -/
structure Gth (K : PySem.W.Frag) (B : Bo) (O : Ow) (G H : Hp) (Dd : Addr) (O1 : Ow) (G1 H1 : Hp) (acc : List D) (vacc : List V) : Prop where
  st : Step K B O G H O1 G1 H1
  gD : G1 Dd = none
  oD : O1 Dd = none
  hD : H1 Dd = some (.lst vacc)
  ra : RpL K G1 vacc acc
section
variable {K : PySem.W.Frag} {B : Bo} {O O1 O2 : Ow} {G H G1 H1 G2 H2 : Hp} {Dd : Addr} {acc : List D} {vacc : List V}
theorem Gth.step (nb : ¬ Hid B Dd) (g : Gth K B O G H Dd O1 G1 H1 acc vacc) (s : Step K B O1 G1 H1 O2 G2 H2) : Gth K B O G H Dd O2 G2 H2 acc vacc :=
  ⟨g.st.trans s, (s.hid _ _ g.hD g.gD g.oD).1, (s.hid _ _ g.hD g.gD g.oD).2, s.keep _ _ g.hD nb g.oD, g.ra.mono s.grow⟩
theorem Gth.lay (nb : ¬ Hid B Dd) (nH : H Dd = none) (st : Step K B O G H O1 G1 H1) (gD : G1 Dd = none) (oD : O1 Dd = none) (n3 : ∀ φ, H1 Dd ≠ some (.ext φ)) (ra : RpL K G1 vacc acc) : Gth K B O G H Dd O1 G1 (upd H1 Dd (.lst vacc)) acc vacc := by
  have gd := st.good
  have gd2 : Good K B O1 G1 (upd H1 Dd (.lst vacc)) := by
    refine ⟨fun a o e => ?_, fun b l T e => ?_, gd.amb, fun p d e => ?_⟩
    · rw [upd_ne (fun z => by rw [z, gD] at e; cases e)]; exact gd.sub a o e
    · refine (gd.box b l T e).step (Sub.refl _) (fun a ha => gd.hidG ⟨b, l, T, e, ha⟩) fun a o ha h => ?_
      rw [upd_ne (fun z => ?_)]
      · exact h
      · subst z
        rcases ha with ha | ⟨φ, rfl⟩
        · exact nb ⟨b, l, T, e, ha⟩
        · exact n3 φ h
    · obtain ⟨a, b, c⟩ := gd.own p d e
      exact ⟨a, b, c.mono (Sub.refl _) fun o h => by rw [upd_ne (fun z => by rw [z, oD] at e; cases e)]; exact h⟩
  exact ⟨⟨st.grow, gd2, fun a o e n z => by rw [upd_ne (fun z => by rw [z, nH] at e; cases e)]; exact st.keep a o e n z, st.hid, fun a h => upd_still a (st.still a h)⟩, gD, oD, upd_same, ra⟩
theorem Gth.put {v : V} {d : D} (nb : ¬ Hid B Dd) (nH : H Dd = none) (g : Gth K B O G H Dd O1 G1 H1 acc vacc) (r : Rp K G1 v d) : Gth K B O G H Dd O1 G1 (upd H1 Dd (.lst (vacc ++ [v]))) (acc ++ [d]) (vacc ++ [v]) :=
  Gth.lay nb nH g.st g.gD g.oD (fun φ z => by rw [g.hD] at z; cases z) (g.ra.append (.cons r .nil))
theorem in_run {σ2 : L2.St} {ρ2 : Slots} {g : DG} {tt : DT} {te : DE} {vs is : List Nat} {J : It} {I : Ow → Prop} {ds : List D} {P : List D → Ow → Prop} (hg : MoG g) (ht : Mo tt) (he : Mo te) (nb : ¬ Hid B Dd) (nH : H Dd = none)
    (g0 : Gth K B O G H Dd O1 G1 H1 acc vacc) (rs : RpS K G1 σ2 ρ2) (it : ItD K B G1 J (I, ds)) (h : lcW I g tt te (wipeD ρ2 vs) ds acc O1 P) (hv : ∀ i ∈ is, i ∈ vs) (Nx : Hp → Prop)
    (hP : ∀ acc vacc O2 G2 H2, P acc O2 → Gth K B O G H Dd O2 G2 H2 acc vacc → Sub G1 G2 → Nx H2) :
    ∃ W : Nat → Nat → Hp → Prop, (∃ m, W 0 m H1) ∧ ∀ i m H, W i m H →
      (J.stop i H ∧ Nx H) ∨ (J.go i H ∧ ∃ Nx1 : Hp → Prop, (∀ H', Nx1 H' → ∃ m', m' < m ∧ W (i + 1) m' H') ∧ ∀ x H', J.yld i H x H' → upG K B is g x (L2.wipe σ2 vs) H' fun σ3 H2 => L2.wipe σ3 vs = L2.wipe σ2 vs ∧ upT K B (fun _ _ _ _ => False) tt σ3 H2 fun b H3 =>
        if b = true then up K B (fun _ _ _ _ => False) te σ3 H3 fun y H4 => ∃ acc, H4 Dd = some (.lst acc) ∧ acc.length < sizeLine ∧ Nx1 (upd H4 Dd (.lst (acc ++ [y]))) else Nx1 H3) := by
  refine ⟨fun i m H2 => ∃ G2 O2 acc vacc, m = ds.length - i ∧ i ≤ ds.length ∧ Gth K B O G H Dd O2 G2 H2 acc vacc ∧ Sub G1 G2 ∧ lcW I g tt te (wipeD ρ2 vs) (ds.drop i) acc O2 P, ⟨ds.length, G1, O1, acc, vacc, by simp, Nat.zero_le _, g0, Sub.refl _, by simpa using h⟩, ?_⟩
  rintro i m H2 ⟨G2, O2, acc, vacc, rfl, hi, gt, sb, hl⟩
  rcases Nat.lt_or_ge i ds.length with hlt | hge
  · have ei : ds[i]? = some ds[i] := List.getElem?_eq_getElem hlt
    have ed : ds.drop i = ds[i] :: ds.drop (i + 1) := List.drop_eq_getElem_cons hlt
    rw [ed] at hl
    obtain ⟨hI, hl⟩ := hl
    obtain ⟨go, yl⟩ := (it i O2 G2 H2 gt.st.good sb hI).1 _ ei
    refine .inr ⟨go, fun H3 => ∃ G3 O3 acc vacc, Gth K B O G H Dd O3 G3 H3 acc vacc ∧ Sub G1 G3 ∧ lcW I g tt te (wipeD ρ2 vs) (ds.drop (i + 1)) acc O3 P, fun H3 ⟨G3, O3, acc3, vacc3, a, b, c⟩ => ⟨ds.length - (i + 1), by omega, G3, O3, acc3, vacc3, rfl, by omega, a, b, c⟩, fun x H3 y => ?_⟩
    obtain ⟨G3, s3, rx⟩ := yl x H3 y
    have gt3 := gt.step nb s3
    refine ⟨G3, O2, wipeD ρ2 vs, ds[i], s3.good, (rs.mono (sb.trans s3.grow)).wipe vs, rx, hg _ _ _ _ (fun ρ' z σ3 rs3 o3 => ⟨wipe_off o3 hv, ?_⟩) hl⟩
    refine ⟨G3, O2, ρ', s3.good, rs3, ht _ _ _ _ _ _ (fun c O4 z2 G4 H4 s4 => ?_) (fun _ _ x => x.elim) z⟩
    have gt4 := gt3.step nb s4
    cases c with
    | false => exact iteF ⟨G4, O4, acc, vacc, gt4, (sb.trans s3.grow).trans s4.grow, z2⟩
    | true =>
      refine iteT ⟨G4, O4, ρ', s4.good, rs3.step s4, he _ _ _ _ _ _ (fun y O5 z3 vy G5 H5 s5 ry => ?_) (fun _ _ x => x.elim) z2⟩
      have gt5 := gt4.step nb s5
      exact ⟨vacc, gt5.hD, by rw [gt5.ra.length]; exact z3.1, G5, O5, acc ++ [y], vacc ++ [vy], gt5.put nb nH ry, ((sb.trans s3.grow).trans s4.grow).trans s5.grow, z3.2⟩
  · rw [List.drop_eq_nil_of_le hge] at hl
    obtain ⟨hI, hl⟩ := hl
    exact .inl ⟨(it i O2 G2 H2 gt.st.good sb hI).2 (show i = ds.length by omega), hP acc vacc O2 G2 H2 hl gt sb⟩
/-- the turns of two fors -/
def lcW2 (I : Ow → Prop) (g : DG) (tt : DT) (mi1 : DI) (g1 : DG) (tt1 : DT) (te : DE) (vs1 : List Nat) (ρ : Slots) : List D → List D → Ow → (List D → Ow → Prop) → Prop
  | [], acc, O, Q => I O ∧ Q acc O
  | d :: ds, acc, O, Q => I O ∧ g d ρ fun ρ2 => tt ρ2 O (fun c O1 => bc c (mi1 ρ2 O1 (fun x O2 => lcW x.1 g1 tt1 te (wipeD ρ2 vs1) x.2 acc O2 fun acc' O3 => lcW2 I g tt mi1 g1 tt1 te vs1 ρ ds acc' O3 Q) (fun _ _ => False)) (lcW2 I g tt mi1 g1 tt1 te vs1 ρ ds acc O1 Q)) (fun _ _ => False)
theorem lcW2_mo {I : Ow → Prop} {g : DG} {tt : DT} {mi1 : DI} {g1 : DG} {tt1 : DT} {te : DE} {vs1 : List Nat} (hg : MoG g) (ht : Mo tt) (hi : Mo mi1) (hg1 : MoG g1) (ht1 : Mo tt1) (he : Mo te) {ρ : Slots} {Q Q' : List D → Ow → Prop} (h : ∀ d O, Q d O → Q' d O) : ∀ {ds acc : List D} {O : Ow}, lcW2 I g tt mi1 g1 tt1 te vs1 ρ ds acc O Q → lcW2 I g tt mi1 g1 tt1 te vs1 ρ ds acc O Q'
  | [], _, _, z => ⟨z.1, h _ _ z.2⟩
  | d :: ds, acc, _, z => ⟨z.1, hg _ _ _ _ (fun ρ' z1 => ht _ _ _ _ _ _ (fun c _ z2 => by
      cases c with
      | true => exact (hi _ _ _ _ _ _ (fun y _ z3 => lcW_mo hg1 ht1 he (fun _ _ z4 => lcW2_mo hg ht hi hg1 ht1 he h z4) z3) (fun _ _ x => x) z2)
      | false => exact (lcW2_mo hg ht hi hg1 ht1 he h z2)) (fun _ _ x => x) z1) z.2⟩
abbrev dLc2 (mi : DI) (g : DG) (tt : DT) (mi1 : DI) (g1 : DG) (tt1 : DT) (te : DE) (vs vs1 : List Nat) : DE := fun ρ O Q E => mi ρ O (fun x O1 => lcW2 x.1 g tt mi1 g1 tt1 te vs1 (wipeD ρ vs) x.2 [] O1 fun l O2 => Q (.lst l) O2) E
theorem lc2_run {σ0 : L2.St} {ρ0 : Slots} {g g1 : DG} {tt tt1 : DT} {mi1 : DI} {te : DE} {vs vs1 is is1 : List Nat} {J : It} {I : Ow → Prop} {O0 : Ow} {G0 H0 : Hp} {ds : List D} {Q : VK} {P : List D → Ow → Prop} (hg : MoG g) (ht : Mo tt) (hi1 : Mo mi1) (hg1 : MoG g1) (ht1 : Mo tt1) (he : Mo te)
    (s0 : Step K B O G H O0 G0 H0) (rs : RpS K G σ0 ρ0) (it : ItD K B G0 J (I, ds)) (h : lcW2 I g tt mi1 g1 tt1 te vs1 (wipeD ρ0 vs) ds [] O0 P) (nD : H0 Dd = none) (hv : ∀ i ∈ is, i ∈ vs) (hv1 : ∀ i ∈ is1, i ∈ vs1)
    (hP : ∀ acc vacc O1 G1 H1, P acc O1 → Step K B O G H O1 G1 H1 → O1 Dd = none → G1 Dd = none → H Dd = none → H1 Dd = some (.lst vacc) → ¬ Hid B Dd → RpL K G1 vacc acc → Q (.ref Dd) H1) :
    ∃ W : Nat → Nat → Hp → Prop, (∃ m, W 0 m (upd H0 Dd (.lst []))) ∧ ∀ i m H, W i m H →
      (J.stop i H ∧ Q (.ref Dd) H) ∨ (J.go i H ∧ ∃ Nx : Hp → Prop, (∀ H', Nx H' → ∃ m', m' < m ∧ W (i + 1) m' H') ∧ ∀ x H', J.yld i H x H' → upG K B is g x (L2.wipe σ0 vs) H' fun σ2 H2 => L2.wipe σ2 vs = L2.wipe σ0 vs ∧ upT K B (fun _ _ _ _ => False) tt σ2 H2 fun b H3 =>
        if b = true then upI K B (fun _ _ _ _ => False) mi1 σ2 H3 fun J1 H4 => ∃ W1 : Nat → Nat → Hp → Prop, (∃ m, W1 0 m H4) ∧ ∀ j k H, W1 j k H →
          (J1.stop j H ∧ Nx H) ∨ (J1.go j H ∧ ∃ Nx1 : Hp → Prop, (∀ H', Nx1 H' → ∃ k', k' < k ∧ W1 (j + 1) k' H') ∧ ∀ x H', J1.yld j H x H' → upG K B is1 g1 x (L2.wipe σ2 vs1) H' fun σ3 H5 => L2.wipe σ3 vs1 = L2.wipe σ2 vs1 ∧ upT K B (fun _ _ _ _ => False) tt1 σ3 H5 fun b H6 =>
            if b = true then up K B (fun _ _ _ _ => False) te σ3 H6 fun y H7 => ∃ acc, H7 Dd = some (.lst acc) ∧ acc.length < sizeLine ∧ Nx1 (upd H7 Dd (.lst (acc ++ [y]))) else Nx1 H6)
        else Nx H3) := by
  have nb : ¬ Hid B Dd := s0.good.nhid nD
  have nG : G0 Dd = none := s0.good.freshG nD
  have nO : O0 Dd = none := s0.good.fresh nD
  have nH : H Dd = none := by
    cases eo : H Dd with
    | none => rfl
    | some o =>
      exfalso
      cases eO : O Dd with
      | none => have := s0.keep _ _ eo nb eO; rw [nD] at this; cases this
      | some d => exact absurd nD (s0.still _ (by rw [eo]; exact Option.some_ne_none _))
  refine ⟨fun i m H1 => ∃ G1 O1 acc vacc, m = ds.length - i ∧ i ≤ ds.length ∧ Gth K B O G H Dd O1 G1 H1 acc vacc ∧ Sub G0 G1 ∧ lcW2 I g tt mi1 g1 tt1 te vs1 (wipeD ρ0 vs) (ds.drop i) acc O1 P, ⟨ds.length, G0, O0, [], [], by simp, Nat.zero_le _, Gth.lay nb nH s0 nG nO (fun φ z => by rw [nD] at z; cases z) .nil, Sub.refl _, by simpa using h⟩, ?_⟩
  rintro i m H1 ⟨G1, O1, acc, vacc, rfl, hi, gt, sb, hl⟩
  rcases Nat.lt_or_ge i ds.length with hlt | hge
  · have ei : ds[i]? = some ds[i] := List.getElem?_eq_getElem hlt
    have ed : ds.drop i = ds[i] :: ds.drop (i + 1) := List.drop_eq_getElem_cons hlt
    rw [ed] at hl
    obtain ⟨hI, hl⟩ := hl
    obtain ⟨go, yl⟩ := (it i O1 G1 H1 gt.st.good sb hI).1 _ ei
    refine .inr ⟨go, fun H2 => ∃ G2 O2 acc vacc, Gth K B O G H Dd O2 G2 H2 acc vacc ∧ Sub G0 G2 ∧ lcW2 I g tt mi1 g1 tt1 te vs1 (wipeD ρ0 vs) (ds.drop (i + 1)) acc O2 P, fun H2 ⟨G2, O2, acc2, vacc2, a, b, c⟩ => ⟨ds.length - (i + 1), by omega, G2, O2, acc2, vacc2, rfl, by omega, a, b, c⟩, fun x H2 y => ?_⟩
    obtain ⟨G2, s2, rx⟩ := yl x H2 y
    have gt2 := gt.step nb s2
    refine ⟨G2, O1, wipeD ρ0 vs, ds[i], s2.good, (rs.step gt2.st).wipe vs, rx, hg _ _ _ _ (fun ρ' z σ2 rs2 o2 => ⟨wipe_off o2 hv, ?_⟩) hl⟩
    refine ⟨G2, O1, ρ', s2.good, rs2, ht _ _ _ _ _ _ (fun c O3 z2 G3 H3 s3 => ?_) (fun _ _ x => x.elim) z⟩
    have gt3 := gt2.step nb s3
    have sb3 := (sb.trans s2.grow).trans s3.grow
    cases c with
    | false => exact iteF ⟨G3, O3, acc, vacc, gt3, sb3, z2⟩
    | true =>
      refine iteT ⟨G3, O3, ρ', s3.good, rs2.step s3, hi1 _ _ _ _ _ _ (fun x1 O4 z3 J1 G4 H4 s4 it1 => ?_) (fun _ _ x => x.elim) z2⟩
      have gt4 := gt3.step nb s4
      exact in_run hg1 ht1 he nb nH gt4 ((rs2.step s3).step s4) it1 z3 hv1 _ fun acc5 vacc5 O5 G5 H5 p gt5 sb5 => ⟨G5, O5, acc5, vacc5, gt5, (sb3.trans s4.grow).trans sb5, p⟩
  · rw [List.drop_eq_nil_of_le hge] at hl
    obtain ⟨hI, hl⟩ := hl
    exact .inl ⟨(it i O1 G1 H1 gt.st.good sb hI).2 (show i = ds.length by omega), hP acc vacc O1 G1 H1 hl gt.st gt.oD gt.gD nH gt.hD nb gt.ra⟩
end
section
variable {X : Cx} {L : Pl} {pos : Pos}
theorem d_lc2 {elt tg iter tg1 iter1 : Expr} {ifs ifs1 : List Expr} {scope : Scope} {own : List (Str × Nat)} {vs1 is is1 : List Nat} {mi mi1 : DI} {g g1 : DG} {tt tt1 : DT} {te : DE} (hc : X.calm = true) (hN : X.N.Nodup) (hi : DPI X L tg iter mi) (ok : BlkOk X.N X.env.scope scope own) (hvs : ∀ i ∈ vs1, i ∈ own.map (·.2))
    (hg : ∀ (s : Shared) (H : Hp) (C : Addr) (cl : List (Str × Addr)) (fp : List Addr), DPG (X.blk s H scope (compEnvC scope cl C X.env) fp) L.blk tg is g)
    (ht : ∀ (s : Shared) (H : Hp) (C : Addr) (cl : List (Str × Addr)) (fp : List Addr), DPTs (X.blk s H scope (compEnvC scope cl C X.env) fp) L.blk ifs tt)
    (hi1 : ∀ (s : Shared) (H : Hp) (C : Addr) (cl : List (Str × Addr)) (fp : List Addr), DPI (X.blk s H scope (compEnvC scope cl C X.env) fp) L.blk tg1 iter1 mi1)
    (hg1 : ∀ (s : Shared) (H : Hp) (C : Addr) (cl : List (Str × Addr)) (fp : List Addr), DPG (X.blk s H scope (compEnvC scope cl C X.env) fp) L.blk tg1 is1 g1)
    (ht1 : ∀ (s : Shared) (H : Hp) (C : Addr) (cl : List (Str × Addr)) (fp : List Addr), DPTs (X.blk s H scope (compEnvC scope cl C X.env) fp) L.blk ifs1 tt1)
    (he : ∀ (s : Shared) (H : Hp) (C : Addr) (cl : List (Str × Addr)) (fp : List Addr), DPE (X.blk s H scope (compEnvC scope cl C X.env) fp) L.blk elt te)
    (hv : is.all (fun i => (own.map (·.2)).contains i) = true) (hv1 : is1.all (fun i => vs1.contains i) = true) (hs : ∀ x, foldedSetIterable iter X.env x = pure x) (hs1 : ∀ env x, foldedSetIterable iter1 env x = pure x) :
    DPE X L (.ListComp elt [⟨tg, iter, ifs, 0⟩, ⟨tg1, iter1, ifs1, 0⟩] scope pos) (dLc2 mi g tt mi1 g1 tt1 te (own.map (·.2)) vs1) := by
  have mg := (hg X.s_0 X.H_0 0 [] []).mo
  have mt := (ht X.s_0 X.H_0 0 [] []).mo
  have mi' := (hi1 X.s_0 X.H_0 0 [] []).mo
  have mg1 := (hg1 X.s_0 X.H_0 0 [] []).mo
  have mt1 := (ht1 X.s_0 X.H_0 0 [] []).mo
  have me := (he X.s_0 X.H_0 0 [] []).mo
  refine ⟨fun ρ O Q Q' E E' q hx x => hi.mo ρ _ _ _ _ _ (fun _ _ z => lcW2_mo mg mt mi' mg1 mt1 me (fun _ => q _) z) hx x, pe_imp (pe_lc2 (g := upG X.K L.B is g) (tt := upT X.K L.B (fun _ _ _ _ => False) tt) (wi1 := upI X.K L.B (fun _ _ _ _ => False) mi1) (g1 := upG X.K L.B is1 g1) (tt1 := upT X.K L.B (fun _ _ _ _ => False) tt1) (te := up X.K L.B (fun _ _ _ _ => False) te) hc hN hi.run ok hvs (fun s H C cl fp => (hg s H C cl fp).run) (fun s H C cl fp => (ht s H C cl fp).run) (fun s H C cl fp => (hi1 s H C cl fp).run) (fun s H C cl fp => (hg1 s H C cl fp).run) (fun s H C cl fp => (ht1 s H C cl fp).run) (fun s H C cl fp => (he s H C cl fp).run) hs hs1) fun σ H Q ⟨G, O, ρ, gd, rs, q⟩ => ?_⟩
  refine ⟨G, O, ρ, gd, rs, hi.mo ρ _ _ _ _ _ (fun x O1 z J G1 H1 s1 it Dd nD => ?_) (fun _ _ x => x) q⟩
  exact lc2_run mg mt mi' mg1 mt1 me s1 rs it z nD (in_of hv) (in_of hv1) fun acc vacc O1 G1 H1 p st a b c d e f => lc_show acc vacc O1 G1 H1 p st a b c d e f
end
end EV
set_option Elab.async false
set_option linter.all false
set_option maxRecDepth 100000
set_option maxHeartbeats 4000000
/-! len(set(x)), x a list of texts -/
namespace EV
open PySem PySem.Spec PyProof.Rows L2
/-- texts, each once, as they are met -/
def metI (l : List Str) (x : Str) : List Str := if l.any (· == x) = true then l else l ++ [x]
def met (xs : List Str) : List Str := xs.foldl metI []
theorem metI_any (l : List Str) (x z : Str) : (metI l x).any (· == z) = (l.any (· == z) || decide (z = x)) := by
  unfold metI
  split
  · rename_i h
    by_cases e : z = x
    · subst e; simp [h]
    · simp [e]
  · by_cases e : z = x
    · subst e; simp
    · have : ¬ x = z := fun q => e q.symm
      simp [this, e]
theorem metI_len (l : List Str) (x : Str) : (metI l x).length = if l.any (· == x) = true then l.length else l.length + 1 := by
  unfold metI
  split <;> simp
theorem met_take {xs : List Str} {i : Nat} (h : i < xs.length) : met (xs.take (i + 1)) = metI (met (xs.take i)) (xs.getD i Str.empty) := by
  unfold met
  rw [List.take_add_one, List.getElem?_eq_getElem h, List.foldl_append]
  simp [List.getD, List.getElem?_eq_getElem h]
theorem met_le : ∀ (xs l : List Str), (xs.foldl metI l).length ≤ l.length + xs.length
  | [], l => by simp
  | x :: xs, l => by
    have := met_le xs (metI l x)
    have h2 := metI_len l x
    rw [List.foldl_cons, List.length_cons]
    split at h2 <;> omega
abbrev SetM (P : Program) (w : World) (h : Heap) (S : Addr) (l : List Str) : Prop := h.SetOf (PySem.strKind P w) S (fun z => l.any (· == z)) l.length
section
variable {P : Program} {w : World} {A : Around} {R : Result → Shared → Prop}
theorem set_walk {I S : Addr} {fp wr : List Addr} {GG : Array GenState → Array GenState → Prop} {n : Nat} {Pv : Nat → Value → Prop} {St : Nat → Shared → Prop} {xs : List Str} (W : WalksS P w A.in1 I fp wr GG n Pv St) (off : S ∉ fp) (hl : xs.length = n) (hb : n + 1 < scanBound) (hv : ∀ i v, Pv i v → ∃ t, v = .str (xs.getD i Str.empty) t) :
    ∀ (k i : Nat) (s : Shared), i + k = n → St i s → SetM P w s.heap S (met (xs.take i)) → (∀ s', Moved (S :: wr) GG s s' → SetM P w s'.heap S (met xs) → R (.ok (.ret .none)) s') → codeAny (model P w) A (.builtin "set.update.loop" ⟨[.ref S, .ref I], []⟩) R s
  | 0, i, s, hk, st, hS, fin => by
    obtain rfl : i = n := by omega
    refine codeAny_builtin PyProof.Rows.F.entry_set_update_loop ?_
    rw [Around.under_plainId PyProof.Rows.F.plain_set_update_loop _]
    refine wpAny_bind (W.done s _ _ st fun s1 mv => wpAny_pure (fin s1 (mv.mono fun b hb => .tail _ hb) ?_))
    rw [← hl, List.take_length] at hS
    obtain ⟨o, es, ep, t, ho, more⟩ := hS
    exact ⟨o, es, ep, t, mv.heap S _ (fun q => off (W.sub _ q)) ho, more⟩
  | k + 1, i, s, hk, st, hS, fin => by
    have hi : i < xs.length := by omega
    refine codeAny_builtin PyProof.Rows.F.entry_set_update_loop ?_
    rw [Around.under_plainId PyProof.Rows.F.plain_set_update_loop _]
    refine wpAny_bind (W.item i s _ _ (by omega) st fun v s1 pv st1 mv => ?_)
    obtain ⟨t, rfl⟩ := hv i v pv
    have hS1 : SetM P w s1.heap S (met (xs.take i)) := by
      obtain ⟨o, es, ep, tb, ho, more⟩ := hS
      exact ⟨o, es, ep, tb, mv.heap S _ (fun q => off (W.sub _ q)) ho, more⟩
    generalize hx : xs.getD i Str.empty = x at *
    have room : (met (xs.take i)).length + 1 < scanBound := by
      have h3 := met_le (xs.take i) []
      have h4 : (met (xs.take i)).length ≤ 0 + (xs.take i).length := h3
      rw [List.length_take] at h4
      omega
    refine wpAny_bind (m := holding [Value.str x t] (setAdd S (.str x t))) (wpAny_holding (wpAny_holding (wpAny_bind ((PySem.strKind P w).pyHash (k := x) (strKind_is _ _ _ _) ?_))))
    refine wpAny_setAddHashed_of (knd := PySem.strKind P w) (s := { s1 with toks := s1.toks + 1 }) (strKind_is _ _ _ _) rfl hS1 room fun h2 same hS2 => ?_
    have hS3 : SetM P w h2 S (met (xs.take (i + 1))) := by
      rw [met_take hi, hx]
      exact SetOf_congr hS2 (fun z => (metI_any _ _ _).symm) (metI_len _ _).symm
    refine wpAny_pure ⟨plainId_quiet PyProof.Rows.F.plain_set_update_loop _, set_walk W off hl hb hv k (i + 1) _ (by omega) (W.frame _ s1 _ _ st1 (Nat.le_succ _) fun b hb o e => ?_) hS3 fun s3 mv3 hS4 => fin s3 (Moved.trans W.gtrans ((mv.mono fun b hb => .tail _ hb).then_heap (Nat.le_succ _) fun b o hb e => ?_) mv3) hS4⟩
    · exact (same.2 b fun q => off (q ▸ hb)).trans e
    · exact (same.2 b fun q => hb (q ▸ .head _)).trans e
/-- a new set -/
abbrev setO (led : Bool) : Obj := { cls := .type "set", dict := none, data := .set #[] 0 (.fresh 0 0 led) }
variable {E : Value → Shared → Prop} {s : Shared}
/-- what set(x) leaves -/
def SetEnd (P : Program) (w : World) (s : Shared) (xs : List Str) (r : Value) (s2 : Shared) : Prop :=
  r = .none ∧ ∃ (h2 : Heap) (tk : Nat), s2 = { s with heap := h2, toks := tk } ∧ SetM P w h2 s.heap.objs.size (met xs) ∧ ∀ b o, b < s.heap.objs.size → s.heap.get? b = some o → h2.get? b = some o
theorem set_init {l : Addr} {items : Array Value} {xs : List Str} {led : Bool} (hh : A.handled = none) (hl : s.heap.IsList l items) (hi : PyProof.Rows.StrsAre items.toList xs) (hb : xs.length + 1 < scanBound) :
    codeAny (model P w) A (.call (.builtin "set.__init__") ⟨[.ref s.heap.objs.size, .ref l], []⟩) (wants (SetEnd P w s xs) E) { s with heap := s.heap.push (setO led) } := by
  have gS : (s.heap.push (setO led)).get? s.heap.objs.size = some (setO led) := Heap.get?_push_size _ rfl
  refine codeAny_call_builtin PySem.F.called_set.init.plain PySem.F.entry_set_init (check_set_init_1 ⟨_, gS, rfl⟩ ?_)
  obtain ⟨⟨oc, od, odt, osl⟩, go, ec, nl, ed⟩ := hl
  dsimp only at ec ed
  subst ec ed
  have gl : (s.heap.push (setO led)).get? l = some { cls := .type "list", dict := od, data := .seq items nl, slots := osl } := Heap.get?_push_of_some _ go
  have f1 := PySem.F.sub_list_set
  have f2 := PySem.F.sub_list_frozenset
  have f3 : (Value.type "list" == Value.type "dict") = false := by decide
  have il : (s.heap.push (setO led)).IsList l items := ⟨_, gl, rfl, nl, rfl⟩
  have ls : l < s.heap.objs.size := Heap.lt_size go
  have ez : xs.length = items.size := by rw [← StrsAre.len_eq hi, Array.length_toList]
  unfold Builtin.«set.__init__» noKeywords Builtin.Frozenset.updateFrom
  generalize eI : pyIter = PI
  wp_walk
  subst eI
  refine wpAny_pyIter_list il (wpAny_bind (wpAny_runValue ?_))
  have n1 : l ≠ (s.heap.push (setO led)).objs.size := by rw [Heap.size_push]; exact Nat.ne_of_lt (Nat.lt_succ_of_lt ls)
  have n2 : s.heap.objs.size ∉ [(s.heap.push (setO led)).objs.size, l] := by
    rw [Heap.size_push]
    simp only [List.mem_cons, List.not_mem_nil, or_false, not_or]
    exact ⟨Nat.ne_of_lt (Nat.lt_succ_self _), Nat.ne_of_gt ls⟩
  refine set_walk (xs := xs) ((Walks.list (show A.in1.in1.handled = none by simp [hh]) _ l n1 items).toS) n2 ez (by omega) (fun i v e => SS.strs_at hi i v (by rw [Array.getElem?_toList]; exact e)) items.size 0 _ (Nat.zero_add _) ?_ ?_ fun s3 mv hS => ?_
  · exact ⟨⟨_, Heap.get?_push_size _ rfl, rfl, rfl⟩, il.push _⟩
  · exact SetOf_congr ((setObjOf_fresh (knd := PySem.strKind P w) led).setOf (Heap.get?_push_of_some _ gS) (by unfold scanBound; omega)) (fun _ => rfl) rfl
  · obtain ⟨h3, g3, d3, t3, o3⟩ := s3
    obtain rfl : g3 = s.gens := mv.gens
    obtain rfl : d3 = s.drawn := mv.drawn
    obtain rfl : o3 = s.os := mv.os
    refine wpAny_pure (wpAny_pure ⟨rfl, h3, t3, rfl, hS, fun b o hb e => ?_⟩)
    refine mv.heap b o ?_ (Heap.get?_push_of_some _ (Heap.get?_push_of_some _ e))
    rw [Heap.size_push]
    simp only [List.mem_cons, List.not_mem_nil, or_false, not_or]
    exact ⟨Nat.ne_of_lt hb, Nat.ne_of_lt (Nat.lt_succ_of_lt hb)⟩
theorem set_texts {l : Addr} {items : Array Value} {xs : List Str} {Q : Value → Shared → Prop} (hh : A.handled = none) (hl : s.heap.IsList l items) (hi : PyProof.Rows.StrsAre items.toList xs) (hb : xs.length + 1 < scanBound)
    (h : ∀ (h2 : Heap) (tk : Nat), SetM P w h2 s.heap.objs.size (met xs) → (∀ b o, b < s.heap.objs.size → s.heap.get? b = some o → h2.get? b = some o) → Q (.ref s.heap.objs.size) { s with heap := h2, toks := tk }) :
    wpAny (model P w) A (call (.type "set") [.ref l]) Q E s := by
  obtain ⟨c, tl, e0⟩ := PySem.F.called_set.mro
  have e1 := PySem.F.called_set.made
  have e2 := PySem.F.called_set.sub
  have e3 := PySem.F.called_set.notType
  have e4 := PySem.F.called_set.canCreate
  have e5 := PySem.F.typeCall_set_1 (.ref l)
  refine wpAny_call (codeAny_of_tree (wpAny_pure ⟨Code.quiet_builtin _ (by decide +kernel), codeAny_builtin PySem.F.entry_type_call ?_⟩))
  rw [Around.under_plain (weight_type_call_type "set" [.ref l] []) rfl]
  repeat (any_goals (first | assumption | wp_step))
  refine codeAny_mono (code_set_new_1 (.ref l) (E := E) (Q₁ := fun obj s1 => ∃ led : Bool, obj = .ref s.heap.objs.size ∧ s1 = { s with heap := s.heap.push (setO led) }) fun led => ⟨led, rfl, rfl⟩) fun r s1 hr => ?_
  cases r with
  | error e => exact hr
  | ok fl =>
    cases fl <;> first | exact hr.elim | skip
    obtain ⟨led, rfl, rfl⟩ := hr
    have tS : Shared.TypeIs { s with heap := s.heap.push (setO led) } (.ref s.heap.objs.size) "set" := ⟨_, Heap.get?_push_size _ rfl, rfl⟩
    have e6 := PySem.F.called_set.init.lookup
    have e7 := PySem.F.called_set.init.bind (.ref s.heap.objs.size)
    repeat (any_goals (first | assumption | wp_step))
    refine codeAny_mono (set_init (E := E) (by simp [hh]) hl hi hb) fun r2 s2 hr2 => ?_
    cases r2 with
    | error e => exact hr2
    | ok fl2 =>
      cases fl2 <;> first | exact hr2.elim | skip
      obtain ⟨rfl, h2, tk, rfl, hS, hk⟩ := hr2
      repeat (any_goals (first | assumption | wp_step))
      exact h _ _ hS hk
end
/-! ### in the layer -/
section
variable {X : Cx} {L : Pl}
theorem rp_strs {K : PySem.W.Frag} {G : Hp} : ∀ {vs : List V} {xs : List Str}, RpL K G vs (xs.map D.str) → vs = xs.map V.str
  | _, [], .nil => rfl
  | _, x :: xs, .cons (.str _) r => by rw [rp_strs r]; rfl
end
end EV
set_option Elab.async false
set_option linter.all false
set_option maxRecDepth 100000
set_option maxHeartbeats 4000000
/-! t.get(x, y), t a dict of the text -/
namespace EV
open PySem PySem.Spec PyProof.Rows L2
section
variable {X : Cx} {L : Pl} {a b c : Expr} {ma mb mc : DE} {apos cpos : Pos}
abbrev dGetK (ad : Addr) (kvs : List (Str × D)) (ma mb mc : DE) : DE := fun ρ O Q E => ma ρ O (fun x O1 => x = .opq (.ref ad) ∧ mb ρ O1 (fun y O2 => mc ρ O2 (fun z O3 => ∃ k, y = .str k ∧ Q ((kvs.lookup k).getD z) O3) E) E) E
theorem d_getK {ad : Addr} {kvs : List (Str × D)} (T : TabK X.K X.w ad kvs) (ha : DPE X L a ma) (hb : DPE X L b mb) (hc : DPE X L c mc) (m : M2 X a "get" apos b c cpos) : DPE X L (.Call (.Attribute a "get" apos) [b, c] [] cpos) (dGetK ad kvs ma mb mc) := by
  obtain ⟨es, n, KD, hf⟩ := T.ex
  have hP : PE X (.Call (.Attribute a "get" apos) [b, c] [] cpos) (fun σ H Q => up X.K L.B L.W ma σ H fun x H1 => x = .ref ad ∧ up X.K L.B L.W mb σ H1 fun y H2 => up X.K L.B L.W mc σ H2 fun z H3 => ∃ k, y = .str k ∧ ∀ v, (∀ d, kvs.lookup k = some d → scV d = some v) → (kvs.lookup k = none → v = z) → Q v H3) := by
    refine ⟨fun pins s σ H Q I h => ?_⟩
    refine wpAny_Call_method m.base m.few m.line PySem.F.plainAttrs_dict PySem.F.slot_dict_get PySem.F.type_dict_get (thn (ha.run.run pins s σ H _ I h) fun u s1 ⟨x, H1, I1, rx, ex, q1⟩ => ?_)
    subst ex
    obtain rfl : u = Value.ref ad := rx
    refine ⟨kd_type KD I1, fun b q => ?_, ?_⟩
    · cases q
      exact ⟨_, I1.kIn _ _ KD.at_, rfl⟩
    rw [m.trees]
    refine Calls.callWith_builtin rfl (Calls.evalArgs_plain (Calls.spliced_cons (thn (hb.run.run pins s1 σ H1 _ I1 q1) fun iv s2 ⟨y, H2, I2, ry, q2⟩ => Calls.spliced_cons (thn (hc.run.run pins s2 σ H2 _ I2 q2) fun fv s3 ⟨z, H3, I3, rz, k, ey, q3⟩ => Calls.spliced_nil ?_))))
    subst ey
    obtain ⟨t, rfl⟩ := ry
    refine call_meetsIn PySem.F.slot_dict_get (kd_type KD I3) PySem.F.entry_dict_get (PySem.F.args_dict_get_3 _ _ _) (meets_dict_get_default (PySem.strKind X.prog X.w) ad (PySem.strKind_is X.prog X.w k t) KD.low fv) ⟨_, PySem.W.mapOf_K (prog := X.prog) I3.kIn KD.at_ KD.lit, ?_⟩
    have hz := hf k
    cases el : kvs.lookup k with
    | none =>
      rw [el] at hz
      have e : (findBy Value.isStrOf es k).getD fv = fv := by rw [hz]; rfl
      show EP X pins σ Q ((findBy Value.isStrOf es k).getD fv) _
      rw [e]
      exact ⟨z, H3, I3.tok _, rz, q3 z (fun d e => by rw [el] at e; cases e) fun _ => rfl⟩
    | some d =>
      rw [el] at hz
      obtain ⟨v, u, e1, e2, e3⟩ := hz
      have e : (findBy Value.isStrOf es k).getD fv = u := by rw [e2]; rfl
      show EP X pins σ Q ((findBy Value.isStrOf es k).getD fv) _
      rw [e]
      exact ⟨v, H3, I3.tok _, e3, q3 v (fun d' e => by rw [el] at e; cases e; exact e1) fun e => by rw [el] at e; cases e⟩
  refine ⟨fun ρ O Q Q' E E' q hx x => ha.mo ρ _ _ _ _ _ (fun _ _ z => ⟨z.1, hb.mo ρ _ _ _ _ _ (fun _ _ y => hc.mo ρ _ _ _ _ _ (fun _ _ ⟨k, e, w⟩ => ⟨k, e, q _ _ w⟩) hx y) hx z.2⟩) hx x, pe_imp hP fun σ H Q ⟨G, O, ρ, g, rs, q⟩ => ?_⟩
  refine up_of ha.mo g rs q fun x vx O1 G1 H1 q1 s1 r1 => ?_
  obtain ⟨rfl, q1⟩ := q1
  cases r1
  refine ⟨rfl, ?_⟩
  refine up_of hb.mo s1.good (rs.step s1) (mo_step hb.mo s1 q1) fun y vy O2 G2 H2 q2 s2 r2 => ?_
  have s12 := s1.trans s2
  refine up_of hc.mo s2.good (rs.step s12) (mo_step hc.mo s12 q2) fun z vz O3 G3 H3 q3 s3 r3 => ?_
  obtain ⟨k, rfl, q3⟩ := q3
  cases r2
  refine ⟨k, rfl, fun v h1 h2 => ?_⟩
  cases el : kvs.lookup k with
  | none =>
    rw [el] at q3
    rw [h2 el]
    exact q3 _ _ _ (s12.trans s3) r3
  | some d =>
    rw [el] at q3
    exact q3 _ _ _ (s12.trans s3) (scV_rp (h1 d el))
end
end EV
set_option Elab.async false
set_option linter.all false
set_option maxRecDepth 100000
set_option maxHeartbeats 4000000
set_option pp.maxSteps 400
/-! values by rules -/
namespace LW
open PySem PySem.Spec PyProof.Rows L2 EV PySem.XO PySem.W LamX
theorem ix0 {x : D} {xs : List D} {Q : D → Prop} (q : Q x) : ixP (.tup (x :: xs)) (.int 0) Q := by
  have e : atI (x :: xs) (0 : Int) = some x := atI_nat (xs := x :: xs) (j := 0) rfl
  unfold ixP
  simp only [e]
  exact q
theorem cut1 (x : D) (xs : List D) : EV.cutD (x :: xs) (some 1) none = xs := by
  have h1 : HT.sIx (x :: xs).length 0 (some 1) = 1 := by simp [HT.sIx]; try omega
  have h2 : HT.sIx (x :: xs).length (x :: xs).length none = (x :: xs).length := by simp [HT.sIx]
  unfold EV.cutD
  rw [h1, h2]
  simp
theorem sl1 {x : D} {xs : List D} {Q : D → Prop} (q : Q (.tup xs)) : slD (.tup (x :: xs)) (some 1) none Q := by
  have h1 : HT.sIx (x :: xs).length 0 (some 1) = 1 := by simp [HT.sIx]; try omega
  refine ⟨by rw [h1]; simp, ?_⟩
  rw [cut1]; exact q
theorem val_sl1 {m : DE} {ρ : Slots} {O : Ow} (x : D) (xs : List D) (h : ∀ Q E, Q (.tup (x :: xs)) O → m ρ O Q E) : ∀ Q E, Q (.tup xs) O → dSl m (dPart (dC (.int 1))) dNoPart ρ O Q E := fun Q E q => h _ _ (show slD (.tup (x :: xs)) (some 1) none (fun d => Q d O) from sl1 q)
theorem hud {A : Around} {k : Nat} (hr : Room k A) : A.units + 1 < cLine := by have := hr.un; omega
theorem tg_pair {i j : Nat} {x y : D} {ρ : Slots} {Q : Slots → Prop} (ρ' : Slots) (e : (ρ.set i (.sh x)).set j (.sh y) = ρ') (h : Q ρ') : dgCons (dgName i) (dgCons (dgName j) dgNil) [x, y] ρ Q := by subst e; exact h
theorem bcT {P Q : Prop} (h : P) : bc true P Q := h
theorem bcF {P Q : Prop} (h : Q) : bc false P Q := h
theorem bcN {P : Prop} {A : DEnds} {ρ : Slots} {O : Ow} (h : A.nx ρ O) : bc false P (dNext A ρ O) := h
theorem st_if {t : DT} {u v rest : DS} {A : DEnds} {ρ : Slots} {O : Ow} (b : Bool) (h : ∀ Q E, Q b O → t ρ O Q E) (k : bc b (u { A with nx := rest A } ρ O) (v { A with nx := rest A } ρ O)) : dSeq (dIfS t u v) rest A ρ O := h _ _ k
theorem st_if1 {t : DT} {u v : DS} {A : DEnds} {ρ : Slots} {O : Ow} (b : Bool) (h : ∀ Q E, Q b O → t ρ O Q E) (k : bc b (u A ρ O) (v A ρ O)) : dIfS t u v A ρ O := h _ _ k
theorem val_enum {mA : DA} {ρ : Slots} {O : Ow} {d : D} {rs : List D} (hd : d = .lst rs ∨ d = .tup rs) (h : ∀ Q E, Q [d] O → mA ρ O Q E) : ∀ Q E, Q (tt1, enumL rs) O → dEnum mA ρ O Q E := fun Q E q => h _ _ (by
  rcases hd with rfl | rfl <;> exact q)
theorem val_len {mA : DA} {ρ : Slots} {O : Ow} {d : D} {rs : List D} (hd : d = .lst rs ∨ d = .tup rs) (h : ∀ Q E, Q [d] O → mA ρ O Q E) : ∀ Q E, Q (.int rs.length) O → dCB lenO mA ρ O Q E := fun Q E q => h _ _ (by
  rcases hd with rfl | rfl <;> exact q)
theorem val_ix {ma mb : DE} {ρ : Slots} {O : Ow} {d : D} {rs : List D} {i : Int} {y : D} (hd : d = .lst rs ∨ d = .tup rs) (h : ∀ Q E, Q d O → ma ρ O Q E) (hi : ∀ Q E, Q (.int i) O → mb ρ O Q E) (e : atI rs i = some y) : ∀ Q E, Q y O → dOp ixD ma mb ρ O Q E := fun Q E q => h _ _ (hi _ _ (by
  rcases hd with rfl | rfl
  · show ixP (.lst rs) (.int i) _
    simp only [ixP, e]; exact q
  · show ixP (.tup rs) (.int i) _
    simp only [ixP, e]; exact q))
theorem val_tst {m : DE} {ρ : Slots} {O : Ow} (b : Bool) (h : ∀ Q E, Q (.bl b) O → m ρ O Q E) : ∀ Q E, Q b O → dTest m ρ O Q E := fun Q E q => h _ _ q
theorem val_tstB {m : DE} {ρ : Slots} {O : Ow} (b : Bool) (h : ∀ Q E, Q (.bl b) O → m ρ O Q E) : ∀ Q E, Q b O → dTestB m ρ O Q E := fun Q E q => h _ _ q
theorem val_not {t : DT} {ρ : Slots} {O : Ow} (b : Bool) (h : ∀ Q E, Q b O → t ρ O Q E) : ∀ Q E, Q (!b) O → dNot t ρ O Q E := fun Q E q => h _ _ q
theorem val_raise {C : Addr} {code : Str} {names : List Str} {mA : DA} {A : DEnds} {ρ : Slots} {O : Ow} (xs : List D) (hl : xs.length = names.length) (h : ∀ Q E, Q xs O → mA ρ O Q E) (k : A.ex (C, errD code names xs) ρ O) : dRaise C code names mA A ρ O := h _ _ ⟨hl, k⟩
theorem val_call {sp : DSp} {mA : DA} {ρ : Slots} {O : Ow} (xs : List D) (y : D) (h : ∀ Q E, Q xs O → mA ρ O Q E) (k : ∀ Q E, Q y O → sp xs O Q E) : ∀ Q E, Q y O → dCall sp mA ρ O Q E := fun Q E q => h _ _ (spM.of (k _ _ q))
theorem find_at {n i : Nat} {p : Nat → Bool} (hi : i < n) (h : p i = true) (hj : ∀ j, j < i → p j = false) : (List.range n).find? p = some i :=
  List.find?_range_eq_some.mpr ⟨h, List.mem_range.mpr hi, fun j h => by simp [hj j h]⟩
theorem find_no {n : Nat} {p : Nat → Bool} (hj : ∀ j, j < n → p j = false) : (List.range n).find? p = none :=
  List.find?_range_eq_none.mpr fun j h => by simp [hj j h]
def Seq (d : D) (xs : List D) : Prop := d = .lst xs ∨ d = .tup xs
theorem st_forJ {mi : DI} {g : DG} {b rest : DS} {A : DEnds} {ρ : Slots} {O : Ow} (xs : List D) (J : Nat → Slots → Prop) (h : ∀ Q E, Q (tt1, xs) O → mi ρ O Q E) (j0 : J 0 ρ)
    (step : ∀ i d, xs[i]? = some d → ∀ ρ, J i ρ → ∀ N : Slots → Ow → Prop, (∀ r, J (i + 1) r → N r O) → g d ρ fun ρ' => b { nx := N, rt := A.rt, bk := rest A, ct := N, ex := A.ex } ρ' O) (k : ∀ r, J xs.length r → rest A r O) : dSeq (dFor mi g b) rest A ρ O := by
  refine h _ _ ?_
  refine forW_at (I := tt1) xs (fun i r O' => O' = O ∧ J i r) (fun _ _ _ _ => trivial) ?_ ?_ (i := 0) rfl (Nat.zero_le _) ⟨rfl, j0⟩
  · rintro i d e ρ O' ⟨rfl, hj⟩ N hN
    exact step i d e ρ hj N fun r hr => hN r _ ⟨rfl, hr⟩
  · rintro r O' ⟨rfl, hj⟩
    exact k r hj
theorem tg_one {i : Nat} {x : D} {ρ : Slots} {Q : Slots → Prop} (ρ' : Slots) (e : ρ.set i (.sh x) = ρ') (h : Q ρ') : dgName i x ρ Q := by subst e; exact h
theorem tg_tup {n : Nat} {gs : DGs} {xs : List D} {ρ : Slots} {Q : Slots → Prop} (e : xs.length = n) (h : gs xs ρ Q) : dgTup n gs (.tup xs) ρ Q := ⟨e, h⟩
theorem enum_at {xs : List D} {i : Nat} {d : D} (h : (enumL xs)[i]? = some d) : ∃ x, xs[i]? = some x ∧ d = .tup [.int i, x] := by
  simp only [enumL, List.getElem?_map, List.getElem?_zipIdx, Option.map_map] at h
  cases e : xs[i]? with
  | none => rw [e] at h; cases h
  | some x => rw [e] at h; simp at h; exact ⟨x, rfl, h.symm⟩
theorem enum_len (xs : List D) : (enumL xs).length = xs.length := by simp [enumL]
theorem rng_at {n i : Nat} {d : D} (h : (rngD 0 n)[i]? = some d) : i < n ∧ d = .int i := by
  unfold rngD at h
  rw [List.getElem?_map] at h
  by_cases hi : i < n
  · rw [List.getElem?_range hi] at h
    simp at h
    exact ⟨hi, h.symm⟩
  · rw [List.getElem?_eq_none (by simp; omega)] at h; cases h
theorem getD_of {xs : List D} {i : Nat} {x : D} (h : xs[i]? = some x) : xs.getD i .non = x := by simp [List.getD, h]
theorem val_tupO {mA : DA} {ρ : Slots} {O : Ow} {d : D} {rs : List D} (hd : Seq d rs) (h : ∀ Q E, Q [d] O → mA ρ O Q E) : ∀ Q E, Q (.tup rs) O → dCB tupO mA ρ O Q E := fun Q E q => h _ _ (by
  rcases hd with rfl | rfl <;> exact q)
theorem val_fld {C : Addr} {f : Str} {m : DE} {ρ : Slots} {O : Ow} {fs : List (Str × D)} {d : D} (h : ∀ Q E, Q (.ins C fs) O → m ρ O Q E) (e : fs.lookup f = some d) : ∀ Q E, Q d O → dFld C f m ρ O Q E := fun Q E q => h _ _ (by
  show EV.fldD C f (.ins C fs) _
  unfold EV.fldD
  refine ⟨rfl, ?_⟩
  rw [e]; exact q)
theorem val_pull {b : Addr} {mb mN : DE} {ρ : Slots} {O : Ow} (n : Int) (hb : ∀ Q E, Q (.opq (.ref b)) O → mb ρ O Q E) (hN : ∀ Q E, Q (.int n) O → mN ρ O Q E) (h0 : 0 < n) (h1 : n < 1073741824) : ∀ Q E, (∀ k, 0 ≤ k → k < n → Q (.int k) O) → dCallX b pullS (dCons mb (dCons mN dNil)) ρ O Q E := fun Q E q => hb _ _ (hN _ _ ⟨rfl, spM.of ⟨n, rfl, h0, h1, q⟩⟩)
theorem val_of {b : Addr} {mb md : DE} {ρ : Slots} {O : Ow} (d : D) (hb : ∀ Q E, Q (.opq (.ref b)) O → mb ρ O Q E) (hd : ∀ Q E, Q d O → md ρ O Q E) (h0 : 0 < (itemsL d).length) (h1 : (itemsL d).length < 1000000) : ∀ Q E, (∀ y ∈ itemsL d, Q y O) → dCallX b ofS (dCons mb (dCons md dNil)) ρ O Q E := fun Q E q => hb _ _ (hd _ _ ⟨rfl, spM.of ⟨d, rfl, h0, h1, q⟩⟩)
theorem cut_at (xs : List D) (k : Nat) (h : k ≤ xs.length) : EV.cutD xs none (some (k : Int)) = xs.take k ∧ EV.cutD xs (some (k : Int)) none = xs.drop k := by
  have h1 : ∀ d, HT.sIx xs.length d (some (k : Int)) = k := fun d => by rw [HT.sIx_nat]; omega
  have h2 : ∀ d, HT.sIx xs.length d none = d := fun d => by simp [HT.sIx]
  unfold EV.cutD
  rw [h1, h1, h2, h2]
  exact ⟨by simp, List.take_of_length_le (by simp)⟩
theorem val_join {m : DE} {sep : Str} {ρ : Slots} {O : Ow} {Q : QD} {E : QX} (h : m ρ O (fun d O1 => joinD sep d fun r => Q r O1) E) : dM1 joinD (dC (.str sep)) m ρ O Q E := h
theorem st_asg2 {mA : DA} {i j : Nat} {rest : DS} {A : DEnds} {ρ : Slots} {O : Ow} (P : D → D → Prop) (h : ∀ Q E, (∀ u v, P u v → Q [u, v] O) → mA ρ O Q E) (k : ∀ u v, P u v → rest A ((ρ.set i (.sh u)).set j (.sh v)) O) : dSeq (dAsg (dTup mA) (dgTup 2 (dgCons (dgName i) (dgCons (dgName j) dgNil)))) rest A ρ O := h _ _ fun u v p => ⟨le_sz rfl, ⟨rfl, k u v p⟩⟩
theorem szk {n : Nat} (h : n ≤ 1000) : n ≤ sizeLine := Nat.le_trans h (by decide)
theorem val_rng {mA : DA} {ρ : Slots} {O : Ow} (n : Nat) (hn : n < 1000000) (h : ∀ Q E, Q [.int n] O → mA ρ O Q E) : ∀ Q E, Q (tt1, rngD 0 n) O → dRng1 mA ρ O Q E := fun Q E q => h _ _ ⟨by omega, by omega, q⟩
theorem val_eqB {ma mb : DE} {ρ : Slots} {O : Ow} (z y : Str) (b : Bool) (ha : ∀ Q E, Q (.str z) O → ma ρ O Q E) (hb : ∀ Q E, Q (.str y) O → mb ρ O Q E) (e : decide (z = y) = b) : ∀ Q E, Q (.bl b) O → dOp (pu (eqD id)) ma mb ρ O Q E := fun Q E q => ha _ _ (hb _ _ (by
  show Q (.bl (decide (z = y))) O
  rw [e]; exact q))
theorem val_ret {m : DE} {A : DEnds} {ρ : Slots} {O : Ow} (d : D) (h : ∀ Q E, Q d O → m ρ O Q E) (q : A.rt d O) : dRet m A ρ O := h _ _ q
theorem val_retX {m : DE} {A : DEnds} {ρ : Slots} {O : Ow} (h : m ρ O A.rt fun x O1 => A.ex x ρ O1) : dRet m A ρ O := h
theorem val_if {t : DT} {ma mb : DE} {ρ : Slots} {O : Ow} (b : Bool) (h : ∀ Q E, Q b O → t ρ O Q E) {Q : QD} {E : QX} (k : bc b (ma ρ O Q E) (mb ρ O Q E)) : dIf t ma mb ρ O Q E := h _ _ k
theorem getD_el {α : Type} {l : List α} {i : Nat} {d : α} (h : i < l.length) : l.getD i d = l[i] := by simp [List.getD, List.getElem?_eq_getElem h]
theorem any_mem {l : List Str} {z : Str} (h : (l.any fun y => decide (z = y)) = true) : z ∈ l := by
  obtain ⟨y, hy, e⟩ := List.any_eq_true.mp h
  rw [of_decide_eq_true e]; exact hy
theorem ad0 {x : D} {xs : List D} : atI (x :: xs) 0 = some x := (show atI _ ((0 : Nat) : Int) = _ from atI_nat rfl)
theorem ad1 {x y : D} {xs : List D} : atI (x :: y :: xs) 1 = some y := (show atI _ ((1 : Nat) : Int) = _ from atI_nat rfl)
theorem ad2 {x y z : D} {xs : List D} : atI (x :: y :: z :: xs) 2 = some z := (show atI _ ((2 : Nat) : Int) = _ from atI_nat rfl)
theorem val_or1 {t u : DT} {ρ : Slots} {O : Ow} (h : ∀ Q E, Q true O → t ρ O Q E) : ∀ Q E, Q true O → dOr t u ρ O Q E := fun Q E q => h _ _ q
theorem val_or2 {t u : DT} {ρ : Slots} {O : Ow} {b : Bool} (h : ∀ Q E, Q false O → t ρ O Q E) (k : ∀ Q E, Q b O → u ρ O Q E) : ∀ Q E, Q b O → dOr t u ρ O Q E := fun Q E q => h _ _ (k _ _ q)
theorem val_inF {ma mb : DE} {ρ : Slots} {O : Ow} (f : Bool → Bool) (z : Str) (ss : List Str) (b : Bool) (ha : ∀ Q E, Q (.str z) O → ma ρ O Q E) (hb : ∀ Q E, Q (.tup (ss.map fun x => .str x)) O → mb ρ O Q E) (e : f (ss.any fun y => decide (z = y)) = b) : ∀ Q E, Q (.bl b) O → dOp (pu (inSD f)) ma mb ρ O Q E := fun Q E q => ha _ _ (hb _ _ (by
  show (match toSs (ss.map fun x => .str x) with
    | some ss => Q (.bl (f (ss.any fun y => decide (z = y)))) O
    | none => False)
  rw [toSs_map (fun x => x)]
  show Q (.bl (f ((ss.map fun x => x).any fun y => decide (z = y)))) O
  rw [List.map_id', e]
  exact q))
theorem val_toT {m mk : DE} {ρ : Slots} {O : Ow} (xs : List D) (k : Nat) (hk1 : k < xs.length) (h : ∀ Q E, Q (.tup xs) O → m ρ O Q E) (hk : ∀ Q E, Q (.int k) O → mk ρ O Q E) : ∀ Q E, Q (.tup (xs.take k)) O → dSl m dNoPart (dPart mk) ρ O Q E := fun Q E q => h _ _ (hk _ _ ⟨fun z => by
  have := z.2
  rw [HT.sIx_nat] at this
  omega, by
  rw [(cut_at xs k (by omega)).1]; exact q⟩)
theorem val_fromT {m mk : DE} {ρ : Slots} {O : Ow} (xs : List D) (k : Nat) (hk0 : 0 < k) (hk1 : k ≤ xs.length) (hx : xs ≠ []) (h : ∀ Q E, Q (.tup xs) O → m ρ O Q E) (hk : ∀ Q E, Q (.int k) O → mk ρ O Q E) : ∀ Q E, Q (.tup (xs.drop k)) O → dSl m (dPart mk) dNoPart ρ O Q E := fun Q E q => h _ _ (hk _ _ ⟨fun z => by
  have := z.1
  rw [HT.sIx_nat] at this
  omega, by
  rw [(cut_at xs k (by omega)).2]; exact q⟩)
theorem val_toL {m mk : DE} {ρ : Slots} {O : Ow} (xs : List D) (k : Nat) (hk1 : k ≤ xs.length) (h : ∀ Q E, Q (.lst xs) O → m ρ O Q E) (hk : ∀ Q E, Q (.int k) O → mk ρ O Q E) : ∀ Q E, Q (.lst (xs.take k)) O → dSl m dNoPart (dPart mk) ρ O Q E := fun Q E q => h _ _ (hk _ _ (by
  show Q (.lst (EV.cutD xs none (some (k : Int)))) O
  rw [(cut_at xs k hk1).1]; exact q))
end LW
set_option Elab.async false
set_option linter.all false
set_option maxRecDepth 100000
set_option maxHeartbeats 4000000
/-! len(set(x)), x a list or a tuple of texts; a & b by an own method -/
namespace EV
open PySem PySem.Spec PyProof.Rows L2
section
variable {P : Program} {w : World} {A : Around} {R : Result → Shared → Prop}
variable {E : Value → Shared → Prop} {s : Shared}
theorem set_initT {l : Addr} {items : Array Value} {xs : List Str} {led : Bool} (hh : A.handled = none) (hl : s.heap.IsTuple l items) (hi : PyProof.Rows.StrsAre items.toList xs) (hb : xs.length + 1 < scanBound) :
    codeAny (model P w) A (.call (.builtin "set.__init__") ⟨[.ref s.heap.objs.size, .ref l], []⟩) (wants (SetEnd P w s xs) E) { s with heap := s.heap.push (setO led) } := by
  have gS : (s.heap.push (setO led)).get? s.heap.objs.size = some (setO led) := Heap.get?_push_size _ rfl
  refine codeAny_call_builtin PySem.F.called_set.init.plain PySem.F.entry_set_init (check_set_init_1 ⟨_, gS, rfl⟩ ?_)
  have il : (s.heap.push (setO led)).IsTuple l items := hl.push _
  obtain ⟨⟨oc, od, odt, osl⟩, go, ec, nl, ed⟩ := hl
  dsimp only at ec ed
  subst ec ed
  have gl : (s.heap.push (setO led)).get? l = some { cls := .type "tuple", dict := od, data := .seq items nl, slots := osl } := Heap.get?_push_of_some _ go
  have f1 := PySem.F.sub_tuple_set
  have f2 := PySem.F.sub_tuple_frozenset
  have f3 : (Value.type "tuple" == Value.type "dict") = false := by decide
  have ls : l < s.heap.objs.size := Heap.lt_size go
  have ez : xs.length = items.size := by rw [← StrsAre.len_eq hi, Array.length_toList]
  unfold Builtin.«set.__init__» noKeywords Builtin.Frozenset.updateFrom
  generalize eI : pyIter = PI
  wp_walk
  subst eI
  refine wpAny_pyIter_tuple il (wpAny_bind (wpAny_runValue ?_))
  have n1 : l ≠ (s.heap.push (setO led)).objs.size := by rw [Heap.size_push]; exact Nat.ne_of_lt (Nat.lt_succ_of_lt ls)
  have n2 : s.heap.objs.size ∉ [(s.heap.push (setO led)).objs.size, l] := by
    rw [Heap.size_push]
    simp only [List.mem_cons, List.not_mem_nil, or_false, not_or]
    exact ⟨Nat.ne_of_lt (Nat.lt_succ_self _), Nat.ne_of_gt ls⟩
  refine set_walk (xs := xs) ((Walks.tuple (show A.in1.in1.handled = none by simp [hh]) _ l n1 items).toS) n2 ez (by omega) (fun i v e => SS.strs_at hi i v (by rw [Array.getElem?_toList]; exact e)) items.size 0 _ (Nat.zero_add _) ?_ ?_ fun s3 mv hS => ?_
  · exact ⟨⟨_, Heap.get?_push_size _ rfl, rfl, rfl⟩, il.push _⟩
  · exact SetOf_congr ((setObjOf_fresh (knd := PySem.strKind P w) led).setOf (Heap.get?_push_of_some _ gS) (by unfold scanBound; omega)) (fun _ => rfl) rfl
  · obtain ⟨h3, g3, d3, t3, o3⟩ := s3
    obtain rfl : g3 = s.gens := mv.gens
    obtain rfl : d3 = s.drawn := mv.drawn
    obtain rfl : o3 = s.os := mv.os
    refine wpAny_pure (wpAny_pure ⟨rfl, h3, t3, rfl, hS, fun b o hb e => ?_⟩)
    refine mv.heap b o ?_ (Heap.get?_push_of_some _ (Heap.get?_push_of_some _ e))
    rw [Heap.size_push]
    simp only [List.mem_cons, List.not_mem_nil, or_false, not_or]
    exact ⟨Nat.ne_of_lt hb, Nat.ne_of_lt (Nat.lt_succ_of_lt hb)⟩
theorem set_textsT {l : Addr} {items : Array Value} {xs : List Str} {Q : Value → Shared → Prop} (hh : A.handled = none) (hl : s.heap.IsTuple l items) (hi : PyProof.Rows.StrsAre items.toList xs) (hb : xs.length + 1 < scanBound)
    (h : ∀ (h2 : Heap) (tk : Nat), SetM P w h2 s.heap.objs.size (met xs) → (∀ b o, b < s.heap.objs.size → s.heap.get? b = some o → h2.get? b = some o) → Q (.ref s.heap.objs.size) { s with heap := h2, toks := tk }) :
    wpAny (model P w) A (call (.type "set") [.ref l]) Q E s := by
  obtain ⟨c, tl, e0⟩ := PySem.F.called_set.mro
  have e1 := PySem.F.called_set.made
  have e2 := PySem.F.called_set.sub
  have e3 := PySem.F.called_set.notType
  have e4 := PySem.F.called_set.canCreate
  have e5 := PySem.F.typeCall_set_1 (.ref l)
  refine wpAny_call (codeAny_of_tree (wpAny_pure ⟨Code.quiet_builtin _ (by decide +kernel), codeAny_builtin PySem.F.entry_type_call ?_⟩))
  rw [Around.under_plain (weight_type_call_type "set" [.ref l] []) rfl]
  repeat (any_goals (first | assumption | wp_step))
  refine codeAny_mono (code_set_new_1 (.ref l) (E := E) (Q₁ := fun obj s1 => ∃ led : Bool, obj = .ref s.heap.objs.size ∧ s1 = { s with heap := s.heap.push (setO led) }) fun led => ⟨led, rfl, rfl⟩) fun r s1 hr => ?_
  cases r with
  | error e => exact hr
  | ok fl =>
    cases fl <;> first | exact hr.elim | skip
    obtain ⟨led, rfl, rfl⟩ := hr
    have tS : Shared.TypeIs { s with heap := s.heap.push (setO led) } (.ref s.heap.objs.size) "set" := ⟨_, Heap.get?_push_size _ rfl, rfl⟩
    have e6 := PySem.F.called_set.init.lookup
    have e7 := PySem.F.called_set.init.bind (.ref s.heap.objs.size)
    repeat (any_goals (first | assumption | wp_step))
    refine codeAny_mono (set_initT (E := E) (by simp [hh]) hl hi hb) fun r2 s2 hr2 => ?_
    cases r2 with
    | error e => exact hr2
    | ok fl2 =>
      cases fl2 <;> first | exact hr2.elim | skip
      obtain ⟨rfl, h2, tk, rfl, hS, hk⟩ := hr2
      repeat (any_goals (first | assumption | wp_step))
      exact h _ _ hS hk
end
/-! ### in the layer -/
def tSetS (K : PySem.W.Frag) (ta : TE) : TE := fun σ H Q => ta σ H fun x H1 => ∃ l, ∃ xs : List Str, x = .ref l ∧ (SqL K H1 l (xs.map V.str) ∨ SqT K H1 l (xs.map V.str)) ∧ xs.length ≤ 1000 ∧ Q (.int (met xs).length) H1
section
variable {X : Cx} {L : Pl}
theorem pe_setS {a : Expr} {ta : TE} {p p2 q pos : Pos} (hc : X.calm = true) (hg : Gl X "len") (hm : X.mg "len" = none) (hg2 : Gl X "set") (hm2 : X.mg "set" = none) (ha : PE X a ta) (na : starEach [a] X.env = (false, eval a X.env) :: starEach [] X.env) :
    PE X (.Call (.Name "len" p) [.Call (.Name "set" p2) [a] [] q] [] pos) (tSetS X.K ta) := by
  refine ⟨fun pins s σ H Q I h => Call_ (ld_blt I hg hm boot_len ?_)⟩
  refine PyProof.Rows.callWith_builtin1 (PyProof.Rows.args_cons (Call_ (ld_blt I hg2 hm2 boot_set ?_)) rfl) rfl rfl
  refine PyProof.Rows.callWith_type1 (PyProof.Rows.args_cons (thn (ha.run pins s σ H _ I h) fun v s1 ⟨x, H1, I1, r1, l, xs, ex, hq, h1, q1⟩ => PyProof.Rows.args_nil ?_) na) na rfl
  subst ex
  cases r1
  have fin : ∀ (h2 : Heap) (tk : Nat), SetM X.prog X.w h2 s1.heap.objs.size (met xs) → (∀ b o, b < s1.heap.objs.size → s1.heap.get? b = some o → h2.get? b = some o) → wpAny (model X.prog X.w) X.A (call (.builtin "len") [.ref s1.heap.objs.size]) (EP X pins σ Q) X.xe { s1 with heap := h2, toks := tk } := fun h2 tk hS hk => by
    obtain ⟨o, es, ep, t, ho, hex, hd, _, _, _, hf, hn⟩ := hS
    have hlen : (met xs).length ≤ 0 + xs.length := met_le xs []
    have I2 : Inv X pins σ H1 { s1 with heap := h2, toks := tk } := I1.kept fun b o e => hk b o (Heap.lt_size e) e
    exact call_len_set ho hex hd hf (by rw [hn]; omega) ⟨.int (met xs).length, H1, I2.tok _, ⟨_, by rw [hn]⟩, q1⟩
  rcases hq with hq | hq
  · obtain ⟨its, r, pl, hz⟩ := I1.list hq
    exact set_texts (I1.ok.hd hc) pl.isList (by simpa using strsAre_of r) (by unfold scanBound; omega) fun h2 tk hS hk => PyProof.Rows.args_nil (fin h2 tk hS hk)
  · obtain ⟨its, r, pl, hz⟩ := I1.tuple hq
    exact set_textsT (I1.ok.hd hc) pl (by simpa using strsAre_of r) (by unfold scanBound; omega) fun h2 tk hS hk => PyProof.Rows.args_nil (fin h2 tk hS hk)
abbrev dSetS (m : DE) : DE := fun ρ O Q E => m ρ O (fun d O1 => ∃ xs : List Str, (d = .lst (xs.map D.str) ∨ d = .tup (xs.map D.str)) ∧ xs.length ≤ 1000 ∧ Q (.int (met xs).length) O1) E
theorem d_setS {a : Expr} {m : DE} {p p2 q pos : Pos} (hc : X.calm = true) (hg : Gl X "len") (hm : X.mg "len" = none) (hg2 : Gl X "set") (hm2 : X.mg "set" = none) (ha : DPE X L a m) (na : starEach [a] X.env = (false, eval a X.env) :: starEach [] X.env) :
    DPE X L (.Call (.Name "len" p) [.Call (.Name "set" p2) [a] [] q] [] pos) (dSetS m) := by
  refine ⟨fun ρ O Q Q' E E' h hx x => ha.mo ρ _ _ _ _ _ (fun _ _ ⟨xs, e, z, y⟩ => ⟨xs, e, z, h _ _ y⟩) hx x, pe_imp (pe_setS hc hg hm hg2 hm2 ha.run na) fun σ H Q ⟨G, O, ρ, g, rs, h⟩ => ?_⟩
  refine up_of ha.mo g rs h fun x v O1 G1 H1 q1 s1 r1 => ?_
  obtain ⟨xs, e | e, z, y⟩ := q1
  · subst e
    cases r1 with
    | lst h1 rl =>
      have e := rp_strs rl
      subst e
      exact ⟨_, xs, rfl, .inl (s1.good.sub.sqL (SqL.of h1)), z, y _ _ _ s1 (.int _)⟩
  · subst e
    cases r1 with
    | tup h1 rl =>
      have e := rp_strs rl
      subst e
      exact ⟨_, xs, rfl, .inr (s1.good.sub.sqT h1), z, y _ _ _ s1 (.int _)⟩
/-! ### a & b -/
end
end EV
set_option Elab.async false
set_option linter.all false
set_option maxRecDepth 100000
set_option maxHeartbeats 4000000
/-! lists that may change: append, insert, extend, pop -/
namespace EV
open PySem PySem.Spec PyProof.Rows L2
section
variable {X : Cx}
def rInsert : V → List V → Hp → VK → Prop := fun x vs H Q => ∃ (l : Addr) (xs : List V) (i : Nat) (j : Int) (y : V), x = .ref l ∧ j = (i : Int) ∧ vs = [.int j, y] ∧ H l = some (.lst xs) ∧ i ≤ xs.length ∧ xs.length < sizeLine ∧ Q .non (upd H l (.lst (xs.take i ++ y :: xs.drop i)))
theorem vals_take : ∀ {xs : List V} {us : List Value} (n : Nat), Vals xs us → Vals (xs.take n) (us.take n)
  | _, _, 0, _ => .nil
  | _, _, _ + 1, .nil => .nil
  | _, _, n + 1, .cons r t => .cons r (vals_take n t)
theorem vals_drop : ∀ {xs : List V} {us : List Value} (n : Nat), Vals xs us → Vals (xs.drop n) (us.drop n)
  | _, _, 0, r => r
  | _, _, _ + 1, .nil => .nil
  | _, _, n + 1, .cons _ t => vals_drop n t
theorem mt_insert : MtM X "list.insert" rInsert := by
  intro pins s σ H x vs v us Q I rx rv h
  obtain ⟨l, xs, i, j, y, rfl, hj, rfl, hH, hi, hz, q⟩ := h
  cases rx
  obtain ⟨u1, u, rfl, ⟨tk, rfl⟩, ru⟩ := rv.two
  obtain ⟨z, its, n, r, hl, e⟩ := I.lstM hH
  have hfit : Builtin.List.listFitsIndex j = true := by
    have : sizeLine < 2 ^ 40 := by decide
    unfold Builtin.List.listFitsIndex
    simp only [Bool.and_eq_true, decide_eq_true_eq]
    constructor <;> omega
  refine call_meets F.slot_list_insert ⟨_, e, rfl⟩ F.entry_list_insert (F.args_list_insert_3 _ _ _) (PySem.AutoSeq1.list_insert_list_int_val_1 l its.toArray n j tk u (by simp [hfit]) (by rw [List.size_toArray]; omega)) ⟨e, ?_⟩
  refine ⟨.non, _, I.lset (its' := its.take i ++ u :: its.drop i) hH e ?_ ((vals_take i r).append (.cons ru (vals_drop i r))) ?_, rfl, q⟩
  · show (its.toArray.extract 0 (if j < 0 then (j + (its.toArray.size : Int)).toNat else min j.toNat its.toArray.size)).push u ++ its.toArray.extract (if j < 0 then (j + (its.toArray.size : Int)).toNat else min j.toNat its.toArray.size) = _
    rw [if_neg (by omega)]
    have : min j.toNat its.toArray.size = i := by rw [List.size_toArray]; omega
    rw [this, PySem.W.kl_ins_eq]
  · rw [List.length_append, List.length_cons, List.length_take, List.length_drop]
    omega
end
/-- what a method does to a list: from its items and the others, the answer and the items then -/
abbrev LR1 := List D → List D → (D → List D → Prop) → Prop
def LMo (R : LR1) : Prop := ∀ xs ys k k', (∀ v zs, k v zs → k' v zs) → R xs ys k → R xs ys k'
def LLift (K : PySem.W.Frag) (R : LR1) (r : V → List V → Hp → VK → Prop) : Prop := ∀ (G H : Hp) (p : Addr) (vs us : List V) (xs ys : List D) (k : D → List D → Prop) (Q : VK), Sub G H → H p = some (.lst vs) → RpL K G vs xs → RpL K G us ys → R xs ys k →
  (∀ v d ws zs, Rp K G v d → RpL K G ws zs → k d zs → Q v (upd H p (.lst ws))) → r (.ref p) us H Q
structure LMet (X : Cx) (nm : Str) (id : String) (R : LR1) : Prop where
  slot : Slot "list" nm id
  ty : typeOf (.builtin id) = pure (.type "method_descriptor")
  mo : LMo R
  run : ∃ r, MtR X id r ∧ LLift X.K R r
def appR : LR1 := fun xs ys k => ∃ y, ys = [y] ∧ xs.length < sizeLine ∧ k .non (xs ++ [y])
def insR : LR1 := fun xs ys k => ∃ (i : Nat) (y : D), ys = [.int i, y] ∧ i ≤ xs.length ∧ xs.length < sizeLine ∧ k .non (xs.take i ++ y :: xs.drop i)
def extR : LR1 := fun xs ys k => ∃ zs, ys = [.lst zs] ∧ xs.length + zs.length ≤ sizeLine ∧ k .non (xs ++ zs)
theorem lm_app {X : Cx} : LMet X "append" "list.append" appR := ⟨PySem.F.slot_list_append, PySem.F.type_list_append, fun xs ys k k' h ⟨y, e, z, q⟩ => ⟨y, e, z, h _ _ q⟩, rAppend, mt_append, fun G H p vs us xs ys k Q s hp rv ru h q => by
  obtain ⟨y, rfl, z, h⟩ := h
  cases ru with
  | cons r1 t => cases t; exact ⟨p, vs, _, rfl, rfl, hp, by rw [rv.length]; exact z, q _ _ _ _ .non (rv.append (.cons r1 .nil)) h⟩⟩
theorem lm_ins {X : Cx} : LMet X "insert" "list.insert" insR := ⟨PySem.F.slot_list_insert, PySem.F.type_list_insert, fun xs ys k k' h ⟨i, y, e, a, z, q⟩ => ⟨i, y, e, a, z, h _ _ q⟩, rInsert, mt_insert, fun G H p vs us xs ys k Q s hp rv ru h q => by
  obtain ⟨i, y, rfl, a, z, h⟩ := h
  cases ru with
  | cons r1 t =>
    cases t with
    | cons r2 t =>
      cases t
      cases r1
      exact ⟨p, vs, i, _, _, rfl, rfl, rfl, hp, by rw [rv.length]; exact a, by rw [rv.length]; exact z, q _ _ _ _ .non ((rv.take i).append (.cons r2 (rv.drop i))) h⟩⟩
abbrev dLM (R : LR1) (ma : DE) (mA : DA) : DE := fun ρ O Q E => ma ρ O (fun x O1 => ∃ p xs0, x = .opq (.ref p) ∧ O1 p = some (.lst xs0) ∧ mA ρ O1 (fun ys O2 => ∃ xs, O2 p = some (.lst xs) ∧ R xs ys fun v zs => Q v (oset O2 p (.lst zs))) E) E
section
variable {X : Cx} {L : Pl} {a b : Expr} {es : List Expr} {ma : DE} {mA : DA} {apos cpos : Pos} {nm : Str} {id : String} {R : LR1}
theorem d_lm (M : LMet X nm id R) (ha : DPE X L a ma) (hA : DPA X L (b :: es) mA) (hbase : attributeBase a nm X.env (eval a X.env) = eval a X.env)
    (hfew : ((backTo cpos (starEach (b :: es) X.env)).all (fun x => !x.1) && (backToKw cpos (keywordEach [] X.env)).all (fun x => x.1.isSome)
      && decide ((b :: es).length + ([] : List Keyword).length + (if ([] : List Keyword).isEmpty then 0 else 1) < 30)) = true)
    (hline : (apos.endLine == cpos.line) = true) (hs : starEach (b :: es) X.env = (false, eval b X.env) :: starEach es X.env) (hplain : (backTo cpos (starEach es X.env)).any (·.1) = false) :
    DPE X L (.Call (.Attribute a nm apos) (b :: es) [] cpos) (dLM R ma mA) := by
  obtain ⟨r, hm, hl⟩ := M.run
  refine ⟨fun ρ O Q Q' E E' q hx x => ha.mo ρ _ _ _ _ _ (fun _ _ ⟨p, xs0, e, o, z⟩ => ⟨p, xs0, e, o, hA.mo ρ _ _ _ _ _ (fun _ _ ⟨xs, o2, y⟩ => ⟨xs, o2, M.mo _ _ _ _ (fun _ _ w => q _ _ w) y⟩) hx z⟩) hx x,
    pe_imp (pe_bm PySem.F.plainAttrs_list M.slot M.ty hm ha.run hA.run hbase hfew hline hs hplain) fun σ H Q ⟨G, O, ρ, g, rs, q⟩ => ?_⟩
  refine up_of ha.mo g rs q fun x vx O1 G1 H1 q1 s1 r1 => ?_
  obtain ⟨p, xs0, rfl, e0, q1⟩ := q1
  cases r1
  obtain ⟨nG0, nb0, vs0, hp0, _⟩ := s1.good.own p _ e0
  refine ⟨.inl ⟨rfl, vs0, SqL.of hp0⟩, ?_⟩
  refine upA_of hA.mo s1.good (rs.step s1) (mo_step hA.mo s1 q1) fun ys us O2 G2 H2 q2 s2 r2 => ?_
  obtain ⟨xs, e2, q2⟩ := q2
  obtain ⟨nG, nb, vs, hp, rl⟩ := s2.good.own p _ e2
  refine hl G2 H2 p vs us xs ys _ Q s2.good.sub hp rl r2 q2 fun v d ws zs rd rz k => ?_
  have st := Step.put (o := .lst ws) (d := .lst zs) s2.good nG nb ⟨_, upd_same, rz⟩ (.inl (by rw [e2]; exact Option.some_ne_none _))
  exact k v _ _ ((s1.trans s2).trans st) rd
end
end EV
set_option Elab.async false
set_option linter.all false
set_option maxRecDepth 100000
set_option maxHeartbeats 4000000
/-! sorting, plainly -/
namespace EV
open PySem PySem.Spec PyProof.Rows L2
theorem perm_sorted_eq {α : Type} {R : α → α → Prop} (anti : ∀ a b, R a b → R b a → a = b) : ∀ {xs ys : List α}, xs.Perm ys → xs.Pairwise R → ys.Pairwise R → xs = ys
  | [], ys, h, _, _ => (List.nil_perm.mp h).symm
  | x :: xs, [], h, _, _ => by simpa using h.length_eq
  | x :: xs, y :: ys, h, hx, hy => by
    have e : x = y := by
      rcases List.mem_cons.mp (h.mem_iff.mp (List.mem_cons_self (a := x) (l := xs))) with e | hm
      · exact e
      · rcases List.mem_cons.mp (h.symm.mem_iff.mp (List.mem_cons_self (a := y) (l := ys))) with e | hn
        · exact e.symm
        · exact anti _ _ ((List.pairwise_cons.mp hx).1 y hn) ((List.pairwise_cons.mp hy).1 x hm)
    subst e
    rw [perm_sorted_eq anti h.cons_inv (List.pairwise_cons.mp hx).2 (List.pairwise_cons.mp hy).2]
def leT (a b : Str) : Bool := decide (a.cps.toList ≤ b.cps.toList)
theorem str_ext {a b : Str} (h : a.cps.toList = b.cps.toList) : a = b := by
  obtain ⟨a⟩ := a; obtain ⟨b⟩ := b
  have : a = b := Array.toList_inj.mp h
  rw [this]
theorem leT_trans (a b c : Str) (h : leT a b = true) (k : leT b c = true) : leT a c = true := decide_eq_true (List.le_trans (of_decide_eq_true h) (of_decide_eq_true k))
theorem leT_total (a b : Str) : (leT a b || leT b a) = true := by
  rw [Bool.or_eq_true]
  rcases List.le_total a.cps.toList b.cps.toList with h | h
  · exact .inl (decide_eq_true h)
  · exact .inr (decide_eq_true h)
theorem leT_anti (a b : Str) (h : leT a b = true) (k : leT b a = true) : a = b := str_ext (List.le_antisymm (of_decide_eq_true h) (of_decide_eq_true k))
def srtS (xs : List Str) : List Str := xs.mergeSort leT
theorem srtS_perm (xs : List Str) : (srtS xs).Perm xs := List.mergeSort_perm xs leT
theorem srtS_pw (xs : List Str) : (srtS xs).Pairwise fun a b => leT a b = true := List.pairwise_mergeSort leT_trans leT_total xs
theorem rising_pw : ∀ (p : Str) (r : List Str), risingS p r = true → (p :: r).Pairwise fun a b => leT a b = true
  | p, [], _ => List.pairwise_singleton _ _
  | p, x :: r, h => by
    have h : (!ltCps x.cps.toList p.cps.toList && risingS x r) = true := h
    rw [Bool.and_eq_true, ltCps_eq] at h
    have ih := rising_pw x r h.2
    have hp : leT p x = true := decide_eq_true (by simpa using h.1)
    refine List.pairwise_cons.mpr ⟨fun y hy => ?_, ih⟩
    rcases List.mem_cons.mp hy with rfl | hy
    · exact hp
    · exact leT_trans _ _ _ hp ((List.pairwise_cons.mp ih).1 y hy)
theorem srtS_of {xs ys : List Str} (h : ys.Perm xs) (s : sortedS ys = true) : ys = srtS xs := by
  refine perm_sorted_eq leT_anti (h.trans (srtS_perm xs).symm) ?_ (srtS_pw xs)
  cases ys with
  | nil => exact List.Pairwise.nil
  | cons x r => exact rising_pw x r s
/-! ### lists of whole numbers -/
def leI (a b : List Int) : Bool := decide (a ≤ b)
theorem leI_trans (a b c : List Int) (h : leI a b = true) (k : leI b c = true) : leI a c = true := decide_eq_true (List.le_trans (of_decide_eq_true h) (of_decide_eq_true k))
theorem leI_total (a b : List Int) : (leI a b || leI b a) = true := by
  rw [Bool.or_eq_true]
  rcases List.le_total a b with h | h
  · exact .inl (decide_eq_true h)
  · exact .inr (decide_eq_true h)
theorem leI_anti (a b : List Int) (h : leI a b = true) (k : leI b a = true) : a = b := List.le_antisymm (of_decide_eq_true h) (of_decide_eq_true k)
def srtI (xs : List (List Int)) : List (List Int) := xs.mergeSort leI
theorem srtI_perm (xs : List (List Int)) : (srtI xs).Perm xs := List.mergeSort_perm xs leI
theorem srtI_pw (xs : List (List Int)) : (srtI xs).Pairwise fun a b => leI a b = true := List.pairwise_mergeSort leI_trans leI_total xs
theorem srtI_of {xs ys : List (List Int)} (h : ys.Perm xs) (s : ys.Pairwise fun a b => leI a b = true) : ys = srtI xs := perm_sorted_eq leI_anti (h.trans (srtI_perm xs).symm) s (srtI_pw xs)
end EV
set_option Elab.async false
set_option linter.all false
set_option maxRecDepth 100000
set_option maxHeartbeats 4000000
/-! dicts: walked, listed, sorted, made of pairs, comprehended, shown -/
namespace EV
open PySem PySem.Spec PyProof.Rows L2
/-! ### {k: v for ..}, one's own -/
def dcW (I : Ow → Prop) (g : DG) (tt : DT) (tk te : DE) (ρ : Slots) : List D → List (Key × D) → Ow → (List (Key × D) → Ow → Prop) → Prop
  | [], acc, O, Q => I O ∧ Q acc O
  | d :: ds, acc, O, Q => I O ∧ g d ρ fun ρ' => tt ρ' O (fun c O1 => bc c (tk ρ' O1 (fun y O2 => te ρ' O2 (fun z O3 => ∃ k, y = kD k ∧ acc.length < sizeLine ∧ dcW I g tt tk te ρ ds (putKD acc k z) O3 Q) (fun _ _ => False)) (fun _ _ => False)) (dcW I g tt tk te ρ ds acc O1 Q)) (fun _ _ => False)
theorem dcW_mo {I : Ow → Prop} {g : DG} {tt : DT} {tk te : DE} (hg : MoG g) (ht : Mo tt) (hk : Mo tk) (he : Mo te) {ρ : Slots} {Q Q' : List (Key × D) → Ow → Prop} (h : ∀ d O, Q d O → Q' d O) : ∀ {ds : List D} {acc : List (Key × D)} {O : Ow}, dcW I g tt tk te ρ ds acc O Q → dcW I g tt tk te ρ ds acc O Q'
  | [], _, _, z => ⟨z.1, h _ _ z.2⟩
  | d :: ds, acc, _, z => ⟨z.1, hg _ _ _ _ (fun ρ' z1 => ht _ _ _ _ _ _ (fun c _ z2 => by
      cases c with
      | true => exact (hk _ _ _ _ _ _ (fun y _ z3 => he _ _ _ _ _ _ (fun u _ z4 => let ⟨k, e, l, w⟩ := z4; ⟨k, e, l, dcW_mo hg ht hk he h w⟩) (fun _ _ x => x) z3) (fun _ _ x => x) z2)
      | false => exact (dcW_mo hg ht hk he h z2)) (fun _ _ x => x) z1) z.2⟩
abbrev dDcO (mi : DI) (g : DG) (tt : DT) (tk te : DE) (vs : List Nat) : DE := fun ρ O Q E => mi ρ O (fun x O1 => dcW x.1 g tt tk te (wipeD ρ vs) x.2 [] O1 fun l O2 => ∀ p, O2 p = none → Q (.opq (.ref p)) (oset O2 p (.dic l))) E
theorem mo_dcO {mi : DI} {g : DG} {tt : DT} {tk te : DE} {vs : List Nat} (hi : Mo mi) (hg : MoG g) (ht : Mo tt) (hk : Mo tk) (he : Mo te) : Mo (dDcO mi g tt tk te vs) := fun ρ O Q Q' E E' q hx x =>
  hi ρ _ _ _ _ _ (fun _ _ z => dcW_mo hg ht hk he (fun _ _ w p n => q _ _ (w p n)) z) hx x
section
variable {X : Cx} {L : Pl} {K : PySem.W.Frag} {B : Bo} {O : Ow} {G H : Hp} {I : Ow → Prop} {pos : Pos}
theorem dc_run {σ0 : L2.St} {ρ0 : Slots} {g : DG} {tt : DT} {tk te : DE} {vs is : List Nat} {J : It} {O0 : Ow} {G0 H0 : Hp} {ds : List D} {Q : VK} {P : List (Key × D) → Ow → Prop} {Dd : Addr} (hg : MoG g) (ht : Mo tt) (hk : Mo tk) (he : Mo te)
    (s0 : Step K B O G H O0 G0 H0) (rs : RpS K G σ0 ρ0) (it : ItD K B G0 J (I, ds)) (h : dcW I g tt tk te (wipeD ρ0 vs) ds [] O0 P) (nD : H0 Dd = none) (hv : ∀ i ∈ is, i ∈ vs)
    (hP : ∀ acc vacc O1 G1 H1, P acc O1 → Step K B O G H O1 G1 H1 → O1 Dd = none → G1 Dd = none → H Dd = none → H1 Dd = some (.dK vacc) → ¬ Hid B Dd → RpK K G1 vacc acc → Q (.ref Dd) H1) :
    ∃ W : Nat → Nat → Hp → Prop, (∃ m, W 0 m (upd H0 Dd (.dK []))) ∧ ∀ i m H, W i m H →
      (J.stop i H ∧ Q (.ref Dd) H) ∨ (J.go i H ∧ ∃ Nx : Hp → Prop, (∀ H', Nx H' → ∃ m', m' < m ∧ W (i + 1) m' H') ∧ ∀ x H', J.yld i H x H' → upG K B is g x (L2.wipe σ0 vs) H' fun σ2 H2 => L2.wipe σ2 vs = L2.wipe σ0 vs ∧ upT K B (fun _ _ _ _ => False) tt σ2 H2 fun b H3 =>
        if b = true then up K B (fun _ _ _ _ => False) tk σ2 H3 fun y H4 => up K B (fun _ _ _ _ => False) te σ2 H4 fun z H5 => ∃ kvs k, y = kV k ∧ H5 Dd = some (.dK kvs) ∧ kvs.length < sizeLine ∧ Nx (upd H5 Dd (.dK (putK kvs k z))) else Nx H3) := by
  have nb : ¬ Hid B Dd := s0.good.nhid nD
  have nG : G0 Dd = none := s0.good.freshG nD
  have nO : O0 Dd = none := s0.good.fresh nD
  have upk : ∀ {O1 : Ow} {G1 H1 : Hp} (l : List (Key × V)), Good K B O1 G1 H1 → G1 Dd = none → O1 Dd = none → (∀ φ, H1 Dd ≠ some (.ext φ)) → Good K B O1 G1 (upd H1 Dd (.dK l)) := fun {O1 G1 H1} l gd n1 n2 n3 => by
    refine ⟨fun a o e => ?_, fun b l T e => ?_, gd.amb, fun p d e => ?_⟩
    · rw [upd_ne (fun z => by rw [z, n1] at e; cases e)]; exact gd.sub a o e
    · refine (gd.box b l T e).step (Sub.refl _) (fun a ha => gd.hidG ⟨b, l, T, e, ha⟩) fun a o ha h => ?_
      rw [upd_ne (fun z => ?_)]
      · exact h
      · subst z
        rcases ha with ha | ⟨φ, rfl⟩
        · exact nb ⟨b, l, T, e, ha⟩
        · exact n3 φ h
    · obtain ⟨a, b, c⟩ := gd.own p d e
      exact ⟨a, b, c.mono (Sub.refl _) fun o h => by rw [upd_ne (fun z => by rw [z, n2] at e; cases e)]; exact h⟩
  by_cases hHD : ∃ o, H Dd = some o
  · -- it was there at first and is no more: so it was one's own, and is dropped
    obtain ⟨o, eo⟩ := hHD
    exfalso
    cases eO : O Dd with
    | none => have := s0.keep _ _ eo nb eO; rw [nD] at this; cases this
    | some d => exact absurd nD (s0.still _ (by rw [eo]; exact Option.some_ne_none _))
  have nH : H Dd = none := by
    cases e : H Dd with
    | none => rfl
    | some o => exact absurd ⟨o, e⟩ hHD
  refine ⟨fun i m H1 => ∃ G1 O1 acc vacc, m = ds.length - i ∧ i ≤ ds.length ∧ Step K B O G H O1 G1 H1 ∧ Sub G0 G1 ∧ G1 Dd = none ∧ O1 Dd = none ∧ H1 Dd = some (.dK vacc) ∧ RpK K G1 vacc acc ∧ dcW I g tt tk te (wipeD ρ0 vs) (ds.drop i) acc O1 P, ⟨ds.length, G0, O0, [], [], by simp, Nat.zero_le _, ?_, Sub.refl _, nG, nO, upd_same, .nil, by simpa using h⟩, ?_⟩
  · exact ⟨s0.grow, upk [] s0.good nG nO (fun φ z => by rw [nD] at z; cases z), fun a o e n z => by rw [upd_ne (fun z => by rw [z, nH] at e; cases e)]; exact s0.keep a o e n z, s0.hid, fun a h => upd_still a (s0.still a h)⟩
  · rintro i m H1 ⟨G1, O1, acc, vacc, rfl, hi, st, sb, gD, oD, hD, ra, hl⟩
    rcases Nat.lt_or_ge i ds.length with hlt | hge
    · have ei : ds[i]? = some ds[i] := List.getElem?_eq_getElem hlt
      have ed : ds.drop i = ds[i] :: ds.drop (i + 1) := List.drop_eq_getElem_cons hlt
      rw [ed] at hl
      obtain ⟨hI, hl⟩ := hl
      obtain ⟨go, yl⟩ := (it i O1 G1 H1 st.good sb hI).1 _ ei
      refine .inr ⟨go, fun H2 => ∃ G2 O2 acc vacc, Step K B O G H O2 G2 H2 ∧ Sub G0 G2 ∧ G2 Dd = none ∧ O2 Dd = none ∧ H2 Dd = some (.dK vacc) ∧ RpK K G2 vacc acc ∧ dcW I g tt tk te (wipeD ρ0 vs) (ds.drop (i + 1)) acc O2 P, fun H2 ⟨G2, O2, acc2, vacc2, a, b, c, c', d, e, f⟩ => ⟨ds.length - (i + 1), by omega, G2, O2, acc2, vacc2, rfl, by omega, a, b, c, c', d, e, f⟩, fun x H2 y => ?_⟩
      obtain ⟨G2, s2, rx⟩ := yl x H2 y
      have st2 := st.trans s2
      have gD2 : G2 Dd = none := (s2.hid _ _ hD gD oD).1
      have hD2 : H2 Dd = some (.dK vacc) := s2.keep _ _ hD nb oD
      refine ⟨G2, O1, wipeD ρ0 vs, ds[i], s2.good, (rs.step st2).wipe vs, rx, hg _ _ _ _ (fun ρ' z σ2 rs2 o2 => ⟨wipe_off o2 hv, ?_⟩) hl⟩
      refine ⟨G2, O1, ρ', s2.good, rs2, ht _ _ _ _ _ _ (fun c O3 z2 G3 H3 s3 => ?_) (fun _ _ x => x.elim) z⟩
      have st3 := st2.trans s3
      have gD3 := s3.hid _ _ hD2 gD2 oD
      have hD3 : H3 Dd = some (.dK vacc) := s3.keep _ _ hD2 nb oD
      cases c with
      | false => exact iteF ⟨G3, O3, acc, vacc, st3, (sb.trans s2.grow).trans s3.grow, gD3.1, gD3.2, hD3, ra.mono (s2.trans s3).grow, z2⟩
      | true =>
        refine iteT ⟨G3, O3, ρ', s3.good, rs2.step s3, hk _ _ _ _ _ _ (fun y O4 z3 vy G4 H4 s4 ry => ?_) (fun _ _ x => x.elim) z2⟩
        have st4 := st3.trans s4
        have gD4 := s4.hid _ _ hD3 gD3.1 gD3.2
        have hD4 : H4 Dd = some (.dK vacc) := s4.keep _ _ hD3 nb gD3.2
        refine ⟨G4, O4, ρ', s4.good, (rs2.step s3).step s4, he _ _ _ _ _ _ (fun u O5 z4 vu G5 H5 s5 ru => ?_) (fun _ _ x => x.elim) z3⟩
        obtain ⟨k, rfl, hlen, z4⟩ := z4
        have st5 := st4.trans s5
        have gD5 := s5.hid _ _ hD4 gD4.1 gD4.2
        have hD5 : H5 Dd = some (.dK vacc) := s5.keep _ _ hD4 nb gD4.2
        have ra5 : RpK K G5 vacc acc := ra.mono (((s2.trans s3).trans s4).trans s5).grow
        refine ⟨vacc, k, kD_rp ry, hD5, by rw [ra5.length]; exact hlen, G5, O5, putKD acc k u, putK vacc k vu, ?_, (((sb.trans s2.grow).trans s3.grow).trans s4.grow).trans s5.grow, gD5.1, gD5.2, upd_same, ra5.put ru, z4⟩
        exact ⟨st5.grow, upk _ s5.good gD5.1 gD5.2 (fun φ z => by rw [hD5] at z; cases z), fun a o e n z => by rw [upd_ne (fun z => by rw [z, nH] at e; cases e)]; exact st5.keep a o e n z, st5.hid, fun a h => upd_still a (st5.still a h)⟩
    · rw [List.drop_eq_nil_of_le hge] at hl
      obtain ⟨hI, hl⟩ := hl
      exact .inl ⟨(it i O1 G1 H1 st.good sb hI).2 (show i = ds.length by omega), hP acc vacc O1 G1 H1 hl st oD gD nH hD nb ra⟩
theorem dc_own {Q : VK} (acc : List (Key × D)) (vacc : List (Key × V)) (O1 : Ow) (G1 H1 : Hp) {Dd : Addr} (h : ∀ p, O1 p = none → kv K B O G H Q (.opq (.ref p)) (oset O1 p (.dic acc))) (st : Step K B O G H O1 G1 H1) (oD : O1 Dd = none) (gD : G1 Dd = none) (nH : H Dd = none) (hD : H1 Dd = some (.dK vacc)) (nb : ¬ Hid B Dd) (ra : RpK K G1 vacc acc) : Q (.ref Dd) H1 := by
  have key : Step K B O G H (oset O1 Dd (.dic acc)) G1 H1 := by
    refine ⟨st.grow, ⟨st.good.sub, st.good.box, st.good.amb, fun p d e => ?_⟩, st.keep, fun a o e n z => ?_, st.still⟩
    · by_cases z : p = Dd
      · subst z; rw [oset_same] at e; cases e; exact ⟨gD, nb, vacc, hD, ra⟩
      · rw [oset_ne z] at e; exact st.good.own p d e
    · have := st.hid a o e n z
      exact ⟨this.1, by rw [oset_ne (fun z => by rw [z, nH] at e; cases e)]; exact this.2⟩
  exact h Dd oD (.ref Dd) _ H1 key (.opq _)
theorem d_dcO {kx elt tg iter : Expr} {ifs : List Expr} {scope : Scope} {own : List (Str × Nat)} {is : List Nat} {mi : DI} {g : DG} {tt : DT} {tk te : DE} (hc : X.calm = true) (hN : X.N.Nodup) (hi : DPI X L tg iter mi) (ok : BlkOk X.N X.env.scope scope own)
    (hg : ∀ (s : Shared) (H : Hp) (C : Addr) (cl : List (Str × Addr)) (fp : List Addr), DPG (X.blk s H scope (compEnvC scope cl C X.env) fp) L.blk tg is g)
    (ht : ∀ (s : Shared) (H : Hp) (C : Addr) (cl : List (Str × Addr)) (fp : List Addr), DPTs (X.blk s H scope (compEnvC scope cl C X.env) fp) L.blk ifs tt)
    (hk : ∀ (s : Shared) (H : Hp) (C : Addr) (cl : List (Str × Addr)) (fp : List Addr), DPE (X.blk s H scope (compEnvC scope cl C X.env) fp) L.blk kx tk)
    (he : ∀ (s : Shared) (H : Hp) (C : Addr) (cl : List (Str × Addr)) (fp : List Addr), DPE (X.blk s H scope (compEnvC scope cl C X.env) fp) L.blk elt te)
    (hv : is.all (fun i => (own.map (·.2)).contains i) = true) (hs : ∀ x, foldedSetIterable iter X.env x = pure x) :
    DPE X L (.DictComp kx elt [⟨tg, iter, ifs, 0⟩] scope pos) (dDcO mi g tt tk te (own.map (·.2))) := by
  have mg := (hg X.s_0 X.H_0 0 [] []).mo
  have mt := (ht X.s_0 X.H_0 0 [] []).mo
  have mk := (hk X.s_0 X.H_0 0 [] []).mo
  have me := (he X.s_0 X.H_0 0 [] []).mo
  refine ⟨mo_dcO hi.mo mg mt mk me, pe_imp (pe_dc (tk := up X.K L.B (fun _ _ _ _ => False) tk) (g := upG X.K L.B is g) (tt := upT X.K L.B (fun _ _ _ _ => False) tt) (tv := up X.K L.B (fun _ _ _ _ => False) te) hc hN hi.run ok (fun s H C cl fp => (hg s H C cl fp).run) (fun s H C cl fp => (ht s H C cl fp).run) (fun s H C cl fp => (hk s H C cl fp).run) (fun s H C cl fp => (he s H C cl fp).run) hs) fun σ H Q ⟨G, O, ρ, gd, rs, q⟩ => ?_⟩
  refine ⟨G, O, ρ, gd, rs, hi.mo ρ _ _ _ _ _ (fun x O1 z J G1 H1 s1 it Dd nD => ?_) (fun _ _ x => x) q⟩
  exact dc_run mg mt mk me s1 rs it z nD (in_of hv) fun acc vacc O1 G1 H1 p st a b c d e f => dc_own acc vacc O1 G1 H1 p st a b c d e f
end
/-! ### what is one's own is shown -/
section
variable {X : Cx} {L : Pl} {e a tg : Expr} {es : List Expr} {m : DE} {mA : DA} {pos p apos cpos : Pos} {B : Bo}
abbrev dFrz (m : DE) : DE := fun ρ O Q E => m ρ O (fun d O1 => ∃ p x, d = .opq (.ref p) ∧ O1 p = some x ∧ Q x (odel O1 p)) E
theorem d_frz (h : DPE X L e m) : DPE X L e (dFrz m) := by
  refine ⟨fun ρ O Q Q' E E' q hx x => h.mo ρ _ _ _ _ _ (fun _ _ ⟨p, y, e, o, z⟩ => ⟨p, y, e, o, q _ _ z⟩) hx x, pe_imp (pe_lk h.run) fun σ H Q ⟨G, O, ρ, g, rs, q⟩ => ?_⟩
  refine up_of h.mo g rs q fun d v O1 G1 H1 q1 s1 r1 => ?_
  obtain ⟨p, x, rfl, ed, q1⟩ := q1
  cases r1
  by_cases nd : ∀ ks, x ≠ .dic ks
  · obtain ⟨G', s, rp⟩ := Step.freeze s1.good nd ed
    exact .inl (q1 _ G' _ (s1.trans s) rp)
  · have : ∃ ks, x = .dic ks := Classical.byContradiction fun z => nd fun ks e => z ⟨ks, e⟩
    obtain ⟨ks, rfl⟩ := this
    obtain ⟨kvs, hp, f⟩ := Step.freezeD s1.good ed
    refine .inr ⟨p, _, rfl, hp, trivial, fun od => ?_⟩
    obtain ⟨G', s, rp⟩ := f od
    exact q1 _ G' _ (s1.trans s) rp
/-! ### walks over a dict that is shown -/
abbrev dItems (m : DE) : DI := fun ρ O Q E => m ρ O (fun x O1 => match x with
  | .dic kds => Q (tt1, kds.map fun kd => .tup [kD kd.1, kd.2]) O1
  | _ => False) E
theorem kD_of {K : PySem.W.Frag} {G : Hp} : ∀ k : Key, Rp K G (kV k) (kD k)
  | .inl i => .int i
  | .inr x => .str x
theorem RpK.get {K : PySem.W.Frag} {G : Hp} : ∀ {fs : List (Key × V)} {ds : List (Key × D)} {i : Nat} {kd : Key × D}, RpK K G fs ds → ds[i]? = some kd → ∃ v, fs[i]? = some (kd.1, v) ∧ Rp K G v kd.2
  | _, _, _, _, .nil, e => by simp at e
  | _, _, 0, _, .cons r _, e => by simp at e; subst e; exact ⟨_, rfl, r⟩
  | _, _, i + 1, kd, .cons _ t, e => by
    obtain ⟨u, h1, h2⟩ := RpK.get (i := i) (kd := kd) t (by simpa using e)
    exact ⟨u, by simpa using h1, h2⟩
theorem d_items {elts : List Expr} {kk : Nat} {tpos : Pos} (h : DPE X L e m) (hbase : attributeBase e "items" X.env (eval e X.env) = eval e X.env) (hline : (apos.endLine == cpos.line) = true) :
    DPI X L (.Tuple elts kk tpos) (.Call (.Attribute e "items" apos) [] [] cpos) (dItems m) := by
  refine ⟨fun ρ O Q Q' E E' q hx x => h.mo ρ _ _ _ _ _ (fun y O1 z => ?_) hx x, pi_imp (pi_items h.run hbase hline) fun σ H R ⟨G, O, ρ, g, rs, q⟩ => ?_⟩
  · cases y <;> first | exact z.elim | exact q _ _ z
  refine up_of h.mo g rs q fun x v O1 G1 H1 q1 s1 r1 => ?_
  cases r1 <;> first | exact q1.elim | skip
  rename_i a od kvs kds hG rk
  refine ⟨a, od, kvs, rfl, s1.good.sub _ _ hG, q1 _ _ _ s1 fun i O2 G2 H2 g2 sb _ => ⟨fun d e => ?_, fun (h : i = (kds.map fun kd => D.tup [kD kd.1, kd.2]).length) => ⟨g2.sub _ _ (sb _ _ hG), by rw [rk.length, ← List.length_map (f := fun kd : Key × D => D.tup [kD kd.1, kd.2]), ← h]; exact Nat.le_refl _⟩⟩⟩
  have e : (kds.map fun kd => D.tup [kD kd.1, kd.2])[i]? = some d := e
  rw [List.getElem?_map] at e
  cases e1 : kds[i]? with
  | none => rw [e1] at e; cases e
  | some kd =>
    rw [e1] at e
    simp only [Option.map_some, Option.some.injEq] at e
    subst e
    obtain ⟨v1, f1, q1⟩ := rk.get e1
    refine ⟨⟨g2.sub _ _ (sb _ _ hG), getElem?_lt f1⟩, fun x H' y => ?_⟩
    obtain ⟨T, k, v2, f2, rfl, nT, rfl⟩ := y
    rw [f1] at f2; cases f2
    exact ⟨_, Step.new g2 nT, new_tup g2 nT (.cons (kD_of _) (.cons (q1.mono sb) .nil))⟩
/-! ### list(d), sorted(d), sorted(xs) of texts -/
def listK : DC := fun O xs Q => match xs with
  | [x] => (match lk O x with
    | .dic kds => Q (.lst (kds.map fun kd => kD kd.1))
    | _ => False)
  | _ => False
theorem RpK.keys {K : PySem.W.Frag} {G : Hp} : ∀ {fs : List (Key × V)} {ds : List (Key × D)}, RpK K G fs ds → RpL K G (fs.map fun kv => kV kv.1) (ds.map fun kd => kD kd.1)
  | _, _, .nil => .nil
  | _, _, .cons (k := k) r t => .cons (kD_of k) (RpK.keys t)
theorem RpK.fst {K : PySem.W.Frag} {G : Hp} : ∀ {fs : List (Key × V)} {ds : List (Key × D)}, RpK K G fs ds → fs.map (·.1) = ds.map (·.1)
  | _, _, .nil => rfl
  | _, _, .cons r t => by rw [List.map_cons, List.map_cons, RpK.fst t]
theorem dic_of {K : PySem.W.Frag} {O : Ow} {G H : Hp} {vs : List V} {x : D} {kds : List (Key × D)} (g : Good K B O G H) (r : RpL K G vs [x]) (e : lk O x = .dic kds) : ∃ a kvs, vs = [.ref a] ∧ Rd H a (.dK kvs) ∧ RpK K G kvs kds := by
  cases r with
  | cons r1 t =>
    cases t
    have rx := lk_rp g r1
    rw [e] at rx
    obtain ⟨a, kvs, rfl, h, rk⟩ := rx.dic g.sub
    exact ⟨a, kvs, rfl, h, rk⟩
theorem cd_listK (hc : X.calm = true) : CallD X B (.type "list") listK := by
  refine ⟨fun O x Q Q' q z => ?_, _, call_listD hc, fun O G H vs ds Q g r h => ?_⟩
  · unfold listK at z ⊢
    split at z
    · split at z
      · exact q _ z
      · exact z
    · exact z
  · unfold listK at h
    split at h
    · split at h
      · rename_i x kds e
        obtain ⟨a, kvs, rfl, hr, rk⟩ := dic_of g r e
        exact ⟨a, kvs, rfl, hr, fun q n => h _ _ _ (Step.new g n) (new_lst g n rk.keys)⟩
      · exact h.elim
    · exact h.elim
def sortSD : DC := fun O xs Q => match xs with
  | [x] => (match lk O x with
    | .lst ds => ∃ ss : List Str, ds = ss.map D.str ∧ ss.length < 64 ∧ Q (.lst ((srtS ss).map D.str))
    | .dic kds => ∃ ss : List Str, kds.map (·.1) = ss.map Sum.inr ∧ ss.length < 64 ∧ Q (.lst ((srtS ss).map D.str))
    | _ => False)
  | _ => False
theorem strs_rp {K : PySem.W.Frag} {G : Hp} : ∀ ss : List Str, RpL K G (ss.map V.str) (ss.map D.str)
  | [] => .nil
  | s :: ss => .cons (.str s) (strs_rp ss)
def rSortBoth (K : PySem.W.Frag) : List V → Hp → VK → Prop := fun xs H Q => rSortedS K xs H Q ∨ ∃ (a : Addr) (kvs : List (Key × V)) (ks : List Str), xs = [.ref a] ∧ Rd H a (.dK kvs) ∧ kvs.map (·.1) = ks.map Sum.inr ∧ ks.length < 64 ∧
    ∀ ys p, ys.Perm ks → sortedS ys = true → H p = none → Q (.ref p) (upd H p (.lst (ys.map V.str)))
theorem cr_sortBoth (hc : X.calm = true) : CallR X (.builtin "sorted") (rSortBoth X.K) := fun pins s σ H vs us Q I r h => h.elim (cr_sortedS pins s σ H vs us Q I r) (call_sortedD hc pins s σ H vs us Q I r)
theorem cd_sortS (hc : X.calm = true) : CallD X B (.builtin "sorted") sortSD := by
  refine ⟨fun O x Q Q' q z => ?_, _, cr_sortBoth hc, fun O G H vs ds Q g r h => ?_⟩
  · unfold sortSD at z ⊢
    split at z
    · split at z
      · obtain ⟨ss, e, l, z⟩ := z; exact ⟨ss, e, l, q _ z⟩
      · obtain ⟨ss, e, l, z⟩ := z; exact ⟨ss, e, l, q _ z⟩
      · exact z
    · exact z
  · unfold sortSD at h
    split at h
    · rename_i x
      split at h
      · rename_i ys e
        obtain ⟨ss, rfl, l, h⟩ := h
        cases r with
        | cons r1 t =>
          cases t
          have rx := lk_rp g r1
          rw [e] at rx
          obtain ⟨a, ws, rfl, hl, rl⟩ := rx.lst g.sub
          have ew := rp_strs rl
          subst ew
          refine .inl ⟨a, ss, rfl, SqL.of hl, l, fun zs p hp hs n => ?_⟩
          rw [srtS_of hp hs]
          exact h _ _ _ (Step.new g n) (new_lst g n (strs_rp _))
      · rename_i kds e
        obtain ⟨ss, ek, l, h⟩ := h
        obtain ⟨a, kvs, rfl, hr, rk⟩ := dic_of g r e
        refine .inr ⟨a, kvs, ss, rfl, hr, by rw [rk.fst]; exact ek, l, fun zs p hp hs n => ?_⟩
        rw [srtS_of hp hs]
        exact h _ _ _ (Step.new g n) (new_lst g n (strs_rp _))
      · exact h.elim
    · exact h.elim
/-! ### dict(pairs), one's own -/
def mergeKD (kds more : List (Key × D)) : List (Key × D) := more.foldl (fun acc kd => putKD acc kd.1 kd.2) kds
theorem RpK.merge {K : PySem.W.Frag} {G : Hp} : ∀ {ws fs : List (Key × V)} {ms ds : List (Key × D)}, RpK K G ws ms → RpK K G fs ds → RpK K G (mergeK fs ws) (mergeKD ds ms)
  | _, _, _, _, .nil, s => s
  | _, _, _, _, .cons (k := k) r t, s => by have := RpK.merge t (s.put (k := k) r); exact this
end
end EV
set_option Elab.async false
set_option linter.all false
set_option maxRecDepth 100000
set_option maxHeartbeats 4000000
/-! written dicts; constants of a class -/
namespace EV
open PySem PySem.Spec PyProof.Rows L2
def dPairs : List (DE × DE) → Slots → Ow → (List (D × D) → Ow → Prop) → QX → Prop
  | [], _, O, Q, _ => Q [] O
  | m :: ms, ρ, O, Q, E => m.1 ρ O (fun x O1 => m.2 ρ O1 (fun y O2 => dPairs ms ρ O2 (fun ps O3 => Q ((x, y) :: ps) O3) E) E) E
abbrev dDisp (ms : List (DE × DE)) : DE := fun ρ O Q E => ∀ p, O p = none → dPairs ms ρ (oset O p (.dic [])) (fun ps O2 => ∃ kds : List (Key × D), ps = kds.map (fun kd => (kD kd.1, kd.2)) ∧ kds.length ≤ 15 ∧ O2 p = some (.dic []) ∧ Q (.opq (.ref p)) (oset O2 p (.dic (mergeKD [] kds)))) E
abbrev upP (K : PySem.W.Frag) (L : Pl) (ms : List (DE × DE)) : List (TE × TE) := ms.map fun m => (up K L.B L.W m.1, up K L.B L.W m.2)
structure DPPs (X : Cx) (L : Pl) (pos : Pos) (keys : List (Option Expr)) (values : List Expr) (ms : List (DE × DE)) : Prop where
  mo : ∀ m ∈ ms, Mo m.1 ∧ Mo m.2
  run : PPs X pos keys values (upP X.K L ms)
section
variable {X : Cx} {L : Pl} {pos : Pos} {k v e : Expr} {ks : List (Option Expr)} {vs : List Expr} {mk mv m : DE} {ms : List (DE × DE)}
theorem dpp_nil : DPPs X L pos [] [] [] := ⟨(fun _ h => by cases h), pps_nil⟩
theorem dpp_cons (hk : DPE X L k mk) (hv : DPE X L v mv) (hr : DPPs X L pos ks vs ms) : DPPs X L pos (some k :: ks) (v :: vs) ((mk, mv) :: ms) :=
  ⟨fun m h => by
    rcases List.mem_cons.mp h with rfl | h
    · exact ⟨hk.mo, hv.mo⟩
    · exact hr.mo m h, pps_cons hk.run hv.run hr.run⟩
theorem dPairs_mo : ∀ {ms : List (DE × DE)}, (∀ m ∈ ms, Mo m.1 ∧ Mo m.2) → ∀ {ρ : Slots} {O : Ow} {Q Q' : List (D × D) → Ow → Prop} {E E' : QX}, (∀ d O, Q d O → Q' d O) → (∀ x O, E x O → E' x O) → dPairs ms ρ O Q E → dPairs ms ρ O Q' E'
  | [], _, _, _, _, _, _, _, q, _, z => q _ _ z
  | m :: ms, h, ρ, O, Q, Q', E, E', q, hx, z => (h m (by simp)).1 ρ _ _ _ _ _ (fun _ _ z1 => (h m (by simp)).2 ρ _ _ _ _ _ (fun _ _ z2 => dPairs_mo (fun m' h' => h m' (List.mem_cons_of_mem _ h')) (fun _ _ w => q _ _ w) hx z2) hx z1) hx z
inductive RpP (K : PySem.W.Frag) (G : Hp) : List (V × V) → List (D × D) → Prop
  | nil : RpP K G [] []
  | cons {x y : V} {a b : D} {vs : List (V × V)} {ds : List (D × D)} : Rp K G x a → Rp K G y b → RpP K G vs ds → RpP K G ((x, y) :: vs) ((a, b) :: ds)
theorem pairs_run {K : PySem.W.Frag} {σ : L2.St} {ρ : Slots} {R : List (V × V) → Hp → Prop} : ∀ {ms : List (DE × DE)}, (∀ m ∈ ms, Mo m.1 ∧ Mo m.2) → ∀ {O : Ow} {G H : Hp} {P : List (D × D) → Ow → Prop}, Good K L.B O G H → RpS K G σ ρ → dPairs ms ρ O P (kx K L.B O G H (L.W σ)) →
    (∀ ps vs O' G' H', P ps O' → Step K L.B O G H O' G' H' → RpP K G' vs ps → R vs H') → tPairs (upP K L ms) σ H R
  | [], _, O, G, H, P, g, rs, h, k => k [] [] O G H h (Step.refl g) .nil
  | m :: ms, hm, O, G, H, P, g, rs, h, k => by
    have m1 := (hm m (by simp)).1
    have m2 := (hm m (by simp)).2
    have m3 : ∀ m' ∈ ms, Mo m'.1 ∧ Mo m'.2 := fun m' h' => hm m' (List.mem_cons_of_mem _ h')
    refine up_of m1 g rs h fun x v O1 G1 H1 q1 s1 r1 => ?_
    refine up_of m2 s1.good (rs.step s1) (m2 _ _ _ _ _ _ (fun _ _ z => z) (fun _ _ z => z.step s1) q1) fun y u O2 G2 H2 q2 s2 r2 => ?_
    have s12 := s1.trans s2
    refine pairs_run m3 s2.good (rs.step s12) (dPairs_mo m3 (fun _ _ z => z) (fun _ _ z => z.step s12) q2) fun ps vs O3 G3 H3 q3 s3 r3 => ?_
    exact k ((x, y) :: ps) ((v, u) :: vs) O3 G3 H3 q3 (s12.trans s3) (.cons (r1.mono (s2.trans s3).grow) (r2.mono s3.grow) r3)
theorem rpp_keys {K : PySem.W.Frag} {G : Hp} : ∀ {kds : List (Key × D)} {vs : List (V × V)}, RpP K G vs (kds.map fun kd => (kD kd.1, kd.2)) → ∃ kvs : List (Key × V), vs = kvs.map (fun kv => (kV kv.1, kv.2)) ∧ RpK K G kvs kds
  | [], _, .nil => ⟨[], rfl, .nil⟩
  | kd :: kds, _, .cons r1 r2 t => by
    obtain ⟨kvs, rfl, h⟩ := rpp_keys t
    have e := kD_rp r1
    subst e
    exact ⟨(kd.1, _) :: kvs, rfl, .cons r2 h⟩
theorem d_disp (h : DPPs X L pos ks vs ms) (hall : ks.all (·.isSome) = true) (hl : ks.length = vs.length) (h0 : ks ≠ []) (h15 : ks.length ≤ 15) : DPE X L (.Dict ks vs pos) (dDisp ms) := by
  refine ⟨fun ρ O Q Q' E E' q hx x p n => dPairs_mo h.mo (fun _ _ ⟨kds, e, l, o, z⟩ => ⟨kds, e, l, o, q _ _ z⟩) hx (x p n), pe_imp (pe_disp h.run hall hl h0 h15) fun σ H Q ⟨G, O, ρ, g, rs, q⟩ p np => ?_⟩
  have st := new_own (d := .dic []) (o := .dK []) g np ⟨[], upd_same, .nil⟩
  refine pairs_run h.mo st.good (rs.step st) (dPairs_mo h.mo (fun _ _ z => z) (fun _ _ z => z.step st) (q p (g.fresh np))) fun ps vs' O2 G2 H2 q2 s2 r2 => ?_
  obtain ⟨kds, rfl, hl15, o2, q2⟩ := q2
  obtain ⟨kvs, rfl, rk⟩ := rpp_keys r2
  obtain ⟨nG, nb, kv0, hp, rk0⟩ := s2.good.own p _ o2
  cases rk0
  refine ⟨hp, kvs, rfl, by rw [rk.length]; exact hl15, ?_⟩
  have st2 := Step.put (o := .dK (mergeK [] kvs)) (d := .dic (mergeKD [] kds)) s2.good nG nb ⟨_, upd_same, rk.merge .nil⟩ (.inl (by rw [o2]; exact Option.some_ne_none _))
  exact q2 _ _ _ ((st.trans s2).trans st2) (.opq _)
/-! ### a constant of a class -/
abbrev dCon (C : Addr) (f : Str) (d : D) (m : DE) : DE := fun ρ O Q E => m ρ O (fun x O1 => (match lk O1 x with
  | .ins C' fs => C' = C ∧ fs.lookup f = none
  | _ => False) ∧ Q d O1) E
theorem d_con {C : Addr} {f : Str} {v : V} {u : Value} {d : D} (cl : Cls X.K C) (c : Con X.K C f v u) (hd : ∀ G, Rp X.K G v d) (h : DPE X L e m) (hb : attributeBase e f X.env (eval e X.env) = eval e X.env) : DPE X L (.Attribute e f pos) (dCon C f d m) := by
  refine ⟨fun ρ O Q Q' E E' q hx x => h.mo ρ _ _ _ _ _ (fun _ _ z => ⟨z.1, q _ _ z.2⟩) hx x, pe_imp (pe_con h.run hb) fun σ H Q ⟨G, O, ρ, g, rs, q⟩ => ?_⟩
  refine up_of h.mo g rs q fun x vx O1 G1 H1 q1 s1 r1 => ?_
  obtain ⟨q0, q1⟩ := q1
  obtain ⟨p, dx, fs, ev, hp, hl⟩ := ins_of s1.good r1 q0
  exact ⟨p, C, dx, fs, v, u, ev, hp, cl, c, hl, q1 _ _ _ s1 (hd _)⟩
end
end EV
set_option Elab.async false
set_option linter.all false
set_option maxRecDepth 100000
set_option maxHeartbeats 4000000
/-! sorted(xs), xs a list or a tuple of tuples of whole numbers -/
namespace EV
open PySem PySem.Spec PyProof.Rows L2
section
variable {P : Program} {w : World} {A : Around} {X0 : Value → Shared → Prop} {s : Shared}
abbrev gath (h : Heap) (us : List Value) : Heap := (h.push (seqObj "list" #[] 0)).update h.objs.size (Obj.mapSeq (· ++ us.toArray))
theorem collectT {t : Addr} {us : List Value} {Q : List Value → Shared → Prop} (ht : s.heap.IsTuple t us.toArray) (hz : us.length ≤ sizeLine) (h : Q us { s with heap := gath s.heap us }) : wpAny (model P w) A (collect (.ref t)) Q X0 s := by
  obtain ⟨⟨oc, od, odt, osl⟩, go, ec, nl, ed⟩ := ht
  dsimp only at ec ed
  subst ec ed
  unfold collect
  refine wpAny_bind (wpAny_runValue (codeAny_builtin entry_proto_collect' (wpAny_bind (wpAny_newList (wpAny_pure ⟨Code.quiet_builtin _ (by decide +kernel), codeAny_builtin entry_list_iadd' ?_⟩)))))
  show wpAny _ _ (Builtin.List.listExtendWith (.ref s.heap.objs.size) (.ref t) (.ref s.heap.objs.size)) _ _ _
  unfold Builtin.List.listExtendWith
  have g1 : (s.heap.push (seqObj "list" #[] 0)).get? t = some _ := Heap.get?_push_of_some _ go
  refine wpAny_bind (wpAny_typeOf (T := "tuple") ⟨_, g1, rfl⟩ ?_)
  have e1 : (Value.type "tuple" == Value.type "tuple") = true := rfl
  rw [if_pos (by rw [e1]; simp)]
  refine wpAny_bind (listItems_at g1 rfl (wpAny_bind (listItems_at (xs := #[]) (n := 0) (Heap.get?_push_size _ rfl) rfl ?_)))
  rw [if_neg (by simp)]
  refine wpAny_bind (listUpdate_at (xs := #[]) (n := 0) (Heap.get?_push_size _ rfl) rfl (wpAny_pure ?_) (Nat.zero_le _) (by show (#[] ++ us.toArray).size ≤ sizeLine + 1; simp only [Array.size_append, List.size_toArray, List.length_nil]; omega))
  refine wpAny_bind (wpAny_load (get?_update_seq (Heap.get?_push_size _ rfl) _) ?_)
  show wpAny _ _ (pure ((#[] : Array Value) ++ us.toArray).toList) Q X0 _
  have e2 : ((#[] : Array Value) ++ us.toArray).toList = us := by simp
  rw [e2]
  exact wpAny_pure h
theorem sortedTupsT {t : Addr} {us : List Value} {d : Nat} {B : Int} {Q : Value → Shared → Prop} (ht : s.heap.IsTuple t us.toArray) (h6 : us.length < 64) (hd : 1 ≤ d) (x : TS.TupsOk s.heap d B us)
    (h : ∀ out : Array Value, out.toList.Perm us → out.toList.Pairwise (fun u v => TS.code B (TS.intsOf s.heap u) ≤ TS.code B (TS.intsOf s.heap v)) → Q (.ref (s.heap.objs.size + 1)) { s with heap := sortedAll s.heap us out }) :
    wpAny (model P w) A (call (.builtin "sorted") [.ref t]) Q X0 s := by
  refine Calls.call_function_entry kind_sorted plain_sorted entry_sorted (args_sorted1 _) ?_
  unfold Builtin.«sorted»
  refine wpAny_bind (m := checkCount "sorted" 1 1 _) (wpAny_pure (wpAny_bind (collectT ht (by rw [sizeLine_eq]; omega) (wpAny_bind (wpAny_newList ?_ (by rw [sizeLine_eq]; omega))))))
  have z1 : (gath s.heap us).objs.size = s.heap.objs.size + 1 := by rw [Heap.size_update, size_push']
  have o1 : ((gath s.heap us).push (seqObj "list" us.toArray 0)).get? (s.heap.objs.size + 1) = some (seqObj "list" us.toArray 0) := by rw [← z1]; exact Heap.get?_push_size _ rfl
  have kp : ∀ b o, s.heap.get? b = some o → o.cls = .type "tuple" → ((gath s.heap us).push (seqObj "list" us.toArray 0)).get? b = some o := fun b o q _ => by
    have l1 : b < s.heap.objs.size := Heap.lt_size q
    rw [Heap.get?_push_ne _ _ _ (by rw [z1]; exact Nat.ne_of_lt (Nat.lt_succ_of_lt l1)), Heap.get?_update_ne _ _ _ _ (Nat.ne_of_lt l1), Heap.get?_push_ne _ _ _ (Nat.ne_of_lt l1)]
    exact q
  show wpAny _ _ _ _ _ { s with heap := (gath s.heap us).push (seqObj "list" us.toArray 0) }
  rw [z1]
  refine wpAny_bind (wpAny_holding (wpAny_call_entry slot_list_sort ⟨_, o1, rfl⟩ entry_list_sort (TS.sort_tups o1 h6 hd (x.keeps kp) (fun v => TS.code B (TS.intsOf s.heap v)) (fun v hv ns ti => ?_) fun out a1 a2 => ⟨_, rfl, ?_⟩) (args_list_sort _)))
  · obtain ⟨n0, t0, _⟩ := x v hv
    have e : ns = n0 := ti.ints.symm.trans (t0.keeps kp).ints
    rw [e]
    show TS.code B (TS.intsOf s.heap v) = TS.code B n0
    rw [t0.ints]
  · exact wpAny_pure ⟨_, rfl, h out a1 a2⟩
end
/-- the order of such tuples -/
theorem code_le {B : Int} : ∀ {n m : List Int}, n.length = m.length → TS.Bd B n → TS.Bd B m → TS.code B n ≤ TS.code B m → n ≤ m
  | [], [], _, _, _, _ => List.le_refl _
  | a :: n, b :: m, hl, hn, hm, h => by
    have h2 : n.length = m.length := by simpa using hl
    rcases Int.lt_trichotomy a b with l | l | l
    · exact List.le_of_lt (List.cons_lt_cons_iff.mpr (.inl l))
    · have h3 : ¬ TS.code B m < TS.code B n := fun z => by
        have := (TS.code_same (d := a) (B := B) h2.symm).mpr z
        rw [l] at this h
        omega
      exact List.cons_le_cons_iff.mpr (.inr ⟨l, code_le h2 hn.tail hm.tail (by omega)⟩)
    · have := TS.code_lt (B := B) h2.symm hm.tail hn.tail l
      omega
/-- a row: a tuple of whole numbers -/
abbrev rowD (ns : List Int) : D := .tup (ns.map D.int)
def sortID (d : Nat) (B : Int) : DC := fun O xs Q => match xs with
  | [x] => ∃ ds rs, (lk O x = .lst ds ∨ lk O x = .tup ds) ∧ ds = List.map rowD rs ∧ (rs.length < 64 ∨ (d = 2 ∧ rs.length ≤ 64)) ∧ (∀ r ∈ rs, r.length = d ∧ TS.Bd B r) ∧ Q (.lst ((srtI rs).map rowD))
  | _ => False
theorem rows_tupI {K : PySem.W.Frag} {G H : Hp} (sb : Sub G H) : ∀ {rs : List (List Int)} {vs : List V}, RpL K G vs (rs.map rowD) → Paired (fun v r => TupI K H v r ∧ ∃ t, v = .ref t ∧ SqT K G t (r.map V.int)) vs rs
  | [], _, .nil => .nil
  | r :: rs, _, .cons q t => by
    cases q with
    | tup sq rl =>
      have e := rl.ints
      subst e
      exact .cons ⟨⟨_, rfl, sb.sqT sq⟩, _, rfl, sq⟩ (rows_tupI sb t)
theorem perm_paired {α β : Type} {R : α → β → Prop} {xs ys : List α} (h : ys.Perm xs) : ∀ {rs : List β}, Paired R xs rs → ∃ rs', Paired R ys rs' ∧ rs'.Perm rs := by
  induction h with
  | nil => intro rs p; cases p; exact ⟨[], .nil, List.Perm.nil⟩
  | cons x _ ih =>
    intro rs p
    cases p with
    | cons r t =>
      obtain ⟨rs', p', h'⟩ := ih t
      exact ⟨_, .cons r p', h'.cons _⟩
  | swap x y l =>
    intro rs p
    cases p with
    | cons r t => cases t with
      | cons r2 t2 => exact ⟨_, .cons r2 (.cons r t2), List.Perm.swap _ _ _⟩
  | trans _ _ ih1 ih2 =>
    intro rs p
    obtain ⟨r1, p1, h1⟩ := ih2 p
    obtain ⟨r2, p2, h2⟩ := ih1 p1
    exact ⟨r2, p2, h2.trans h1⟩
theorem paired_pw {α β : Type} {R : α → β → Prop} {S : α → α → Prop} {T : β → β → Prop} (h : ∀ x y a b, R x a → R y b → S x y → T a b) : ∀ {xs : List α} {rs : List β}, Paired R xs rs → xs.Pairwise S → rs.Pairwise T
  | _, _, .nil, _ => List.Pairwise.nil
  | _, _, .cons r t, p => by
    obtain ⟨p1, p2⟩ := List.pairwise_cons.mp p
    refine List.pairwise_cons.mpr ⟨fun b hb => ?_, paired_pw h t p2⟩
    obtain ⟨y, hy, ry⟩ := paired_mem t hb
    exact h _ _ _ _ r ry (p1 y hy)
where
  paired_mem {α β : Type} {R : α → β → Prop} : ∀ {xs : List α} {rs : List β}, Paired R xs rs → ∀ {b : β}, b ∈ rs → ∃ y ∈ xs, R y b
    | _, _, .nil, _, h => by cases h
    | _, _, .cons r t, b, h => by
      rcases List.mem_cons.mp h with rfl | h
      · exact ⟨_, List.mem_cons_self, r⟩
      · obtain ⟨y, hy, q⟩ := paired_mem t h
        exact ⟨y, List.mem_cons_of_mem _ hy, q⟩
def rSortB0 (K : PySem.W.Frag) (d : Nat) (B : Int) : List V → Hp → VK → Prop := fun vs H Q => ∃ (a : Addr) (xs : List V), vs = [V.ref a] ∧ (SqL K H a xs ∨ SqT K H a xs) ∧ xs.length < 64 ∧ (∀ x ∈ xs, ∃ ns, TupI K H x ns ∧ ns.length = d ∧ TS.Bd B ns) ∧
  ∀ (ys : List V) (p : Addr), ys.Perm xs → ys.Pairwise (fun x y => ∀ n m, TupI K H x n → TupI K H y m → TS.code B n ≤ TS.code B m) → H p = none → Q (.ref p) (upd H p (.lst ys))
theorem cr_sortB0 {X : Cx} {d : Nat} {B : Int} (hd : 1 ≤ d) : CallR X (.builtin "sorted") (rSortB0 X.K d B) := by
  intro pins s σ H vs us Q I r h
  obtain ⟨a, xs, ev, hs, h64, hx, q⟩ := h
  rcases hs with hs | hs
  · exact cr_sortT hd pins s σ H vs us Q I r ⟨a, xs, ev, hs, h64, hx, q⟩
  subst ev
  obtain ⟨its, rv, ht, hz⟩ := I.tuple hs
  rw [Vals.ref1 r]
  obtain ⟨e1, e2⟩ := bkV_refs rv fun x m => by obtain ⟨ns, ⟨t, e, _⟩, _⟩ := hx x m; exact ⟨t, e⟩
  have ht' : s.heap.IsTuple a its.toArray := ht
  have hl6 : its.length < 64 := by rw [← rv.length]; exact h64
  refine sortedTupsT (d := d) (B := B) ht' hl6 hd (fun v hv => ?_) fun out h1 h2 => ?_
  · obtain ⟨t, rfl⟩ := e2 v hv
    obtain ⟨ns, ⟨t', e, sq⟩, hn, hb⟩ := hx (V.ref t) (by rw [e1]; exact List.mem_map.mpr ⟨_, hv, rfl⟩)
    cases e
    exact ⟨ns, tupI_raw I sq, hn, hb⟩
  · obtain ⟨ep, he⟩ := PyProof.Rows.sortedAll_at s.heap its out
    have h3 : ∀ u ∈ out.toList, ∃ a, u = Value.ref a := fun u hu => e2 u (h1.mem_iff.mp hu)
    have hp : (out.toList.map bkV).Perm xs := by rw [e1]; exact h1.map bkV
    have hle : (out.toList.map bkV).length ≤ sizeLine := by rw [hp.length_eq]; exact Nat.le_trans (Nat.le_of_lt h64) (by decide)
    refine ⟨.ref _, upd H (s.heap.objs.size + 1) (.lst (out.toList.map bkV)), I.laid (t' := s.toks) (fun _ _ => PyProof.Rows.sortedAll_old) (Nat.le_succ _) ⟨hle, out.toList, ep, bkV_vals h3, he⟩, rfl, q _ _ hp ?_ (I.hok.fresh (Nat.le_succ _))⟩
    rw [List.pairwise_map]
    refine h2.imp fun {u v} huv n m hn hm => ?_
    obtain ⟨t, et, sq⟩ := hn
    obtain ⟨t', et', sq'⟩ := hm
    have i1 : TS.intsOf s.heap u = n := by rw [bkV_ref et]; exact (tupI_raw I sq).ints
    have i2 : TS.intsOf s.heap v = m := by rw [bkV_ref et']; exact (tupI_raw I sq').ints
    rw [← i1, ← i2]
    exact huv
/-! as many pairs as one likes -/
section
variable {P : Program} {w : World} {A : Around} {X0 : Value → Shared → Prop} {s : Shared}
abbrev kP (h : Heap) (v : Value) : Int × Int := ((TS.intsOf h v).getD 0 0, (TS.intsOf h v).getD 1 0)
theorem ord_anyT {t : Addr} {us : List Value} {k : Value → Int × Int} {Q : Value → Shared → Prop} (ht : s.heap.IsTuple t us.toArray) (hz : us.length ≤ sizeLine) (hp : ∀ v ∈ us, Srt.IsPair s.heap v (k v).1 (k v).2)
    (h : ∀ out : List Value, SrtO.Srtd (fun v u => SrtO.lexB (k v) (k u)) out → SrtO.Stb (fun v u => SrtO.lexB (k v) (k u)) out us → Q (.ref (s.heap.objs.size + 1)) { s with heap := sortedAll s.heap us out.toArray }) :
    wpAny (model P w) A (call (.builtin "sorted") [.ref t]) Q X0 s := by
  refine Calls.call_function_entry kind_sorted plain_sorted entry_sorted (args_sorted1 _) ?_
  unfold Builtin.«sorted»
  refine wpAny_bind (m := checkCount "sorted" 1 1 _) (wpAny_pure (wpAny_bind (collectT ht hz (wpAny_bind (wpAny_newList ?_ hz)))))
  have z1 : (gath s.heap us).objs.size = s.heap.objs.size + 1 := by rw [Heap.size_update, size_push']
  have o1 : ((gath s.heap us).push (seqObj "list" us.toArray 0)).get? (s.heap.objs.size + 1) = some (seqObj "list" us.toArray 0) := by rw [← z1]; exact Heap.get?_push_size _ rfl
  have kp : ∀ b o, s.heap.get? b = some o → o.cls = .type "tuple" → ((gath s.heap us).push (seqObj "list" us.toArray 0)).get? b = some o := fun b o q _ => by
    have l1 : b < s.heap.objs.size := Heap.lt_size q
    rw [Heap.get?_push_ne _ _ _ (by rw [z1]; exact Nat.ne_of_lt (Nat.lt_succ_of_lt l1)), Heap.get?_update_ne _ _ _ _ (Nat.ne_of_lt l1), Heap.get?_push_ne _ _ _ (Nat.ne_of_lt l1)]
    exact q
  show wpAny _ _ _ _ _ { s with heap := (gath s.heap us).push (seqObj "list" us.toArray 0) }
  rw [z1]
  refine wpAny_bind (wpAny_holding (wpAny_call_entry slot_list_sort ⟨_, o1, rfl⟩ entry_list_sort (SrtO.list_sort_ord (SrtO.swo_lex k) o1 hz (fun h2 => ?_) fun out a1 a2 => ⟨_, rfl, ?_⟩) (args_list_sort _)))
  · refine SrtO.pairs_sortableO (s := { s with heap := (gath s.heap us).push (seqObj "list" us.toArray 0) }) (by omega) (fun v hm => (hp v hm).keeps kp) fun o e => ?_
    have e' : some o = some (seqObj "list" us.toArray 0) := e.symm.trans o1
    cases e'
    intro c
    exact absurd (Value.type.inj c) (by decide)
  · exact wpAny_pure ⟨_, rfl, h out a1 a2⟩
end
theorem bd_two {B : Int} {n : List Int} (h : n.length = 2) : ∃ a b, n = [a, b] := by
  match n, h with
  | [a, b], _ => exact ⟨a, b, rfl⟩
theorem lex_code {B : Int} {n m : List Int} (hn : n.length = 2) (hm : m.length = 2) (bn : TS.Bd B n) (bm : TS.Bd B m) (h : SrtO.lexB (m.getD 0 0, m.getD 1 0) (n.getD 0 0, n.getD 1 0) = false) : TS.code B n ≤ TS.code B m := by
  refine Classical.byContradiction fun z => ?_
  have le := code_le (by rw [hn, hm]) bm bn (by omega)
  obtain ⟨a, b, rfl⟩ := bd_two (B := B) hn
  obtain ⟨c, d, rfl⟩ := bd_two (B := B) hm
  have h2 := SrtO.lexB_no.mp h
  simp only [List.getD_cons_zero, List.getD_cons_succ] at h2
  rcases List.cons_le_cons_iff.mp le with l | ⟨l, le2⟩
  · exact h2 (.inl l)
  · rcases List.cons_le_cons_iff.mp le2 with l2 | ⟨l2, _⟩
    · exact h2 (.inr ⟨l, l2⟩)
    · subst l; subst l2; exact z (Int.le_refl _)
def rSortB2 (K : PySem.W.Frag) (B : Int) : List V → Hp → VK → Prop := fun vs H Q => ∃ (a : Addr) (xs : List V), vs = [V.ref a] ∧ (SqL K H a xs ∨ SqT K H a xs) ∧ xs.length ≤ 64 ∧ (∀ x ∈ xs, ∃ ns, TupI K H x ns ∧ ns.length = 2 ∧ TS.Bd B ns) ∧
  ∀ (ys : List V) (p : Addr), ys.Perm xs → ys.Pairwise (fun x y => ∀ n m, TupI K H x n → TupI K H y m → TS.code B n ≤ TS.code B m) → H p = none → Q (.ref p) (upd H p (.lst ys))
theorem ints_two : ∀ {l : List Value} {a b : Int}, IntsAre l [a, b] → ∃ t u, l = [.int a t, .int b u]
  | _, _, _, .cons _ t (.cons _ u .nil) => ⟨t, u, rfl⟩
theorem tup_pair {h : Heap} {t : Addr} {ns : List Int} (q : TS.TupInts h (.ref t) ns) (hn : ns.length = 2) : Srt.IsPair h (.ref t) (kP h (.ref t)).1 (kP h (.ref t)).2 := by
  have e := q.ints
  obtain ⟨t', us, e1, ⟨o, go, hc, nl, hd⟩, hi⟩ := q
  cases e1
  obtain ⟨a, b, rfl⟩ := bd_two (B := 0) hn
  obtain ⟨u, v, hu⟩ := ints_two hi
  have hu : us = #[.int a u, .int b v] := by
    apply Array.toList_inj.mp
    rw [hu]
  subst hu
  unfold kP
  rw [e]
  exact ⟨t, o, u, v, nl, rfl, go, hc, hd⟩
theorem cr_sortB2 {X : Cx} {B : Int} : CallR X (.builtin "sorted") (rSortB2 X.K B) := by
  intro pins s σ H vs us Q I r h
  obtain ⟨a, xs, ev, hs, h64, hx, q⟩ := h
  subst ev
  have key : ∃ its, Vals xs its ∧ (s.heap.IsTuple a its.toArray ∨ s.heap.IsList a its.toArray) := by
    rcases hs with hs | hs
    · obtain ⟨its, rv, hl, hz⟩ := I.list hs
      exact ⟨its, rv, .inr hl.isList⟩
    · obtain ⟨its, rv, ht, hz⟩ := I.tuple hs
      exact ⟨its, rv, .inl ht⟩
  obtain ⟨its, rv, hT⟩ := key
  rw [Vals.ref1 r]
  obtain ⟨e1, e2⟩ := bkV_refs rv fun x m => by obtain ⟨ns, ⟨t, e, _⟩, _⟩ := hx x m; exact ⟨t, e⟩
  have hl6 : its.length ≤ sizeLine := by rw [← rv.length]; exact Nat.le_trans h64 (by decide)
  have hpair : ∀ v ∈ its, Srt.IsPair s.heap v (kP s.heap v).1 (kP s.heap v).2 := fun v hv => by
    obtain ⟨t, rfl⟩ := e2 v hv
    obtain ⟨ns, ⟨t', e, sq⟩, hn, hb⟩ := hx (V.ref t) (by rw [e1]; exact List.mem_map.mpr ⟨_, hv, rfl⟩)
    cases e
    exact tup_pair (tupI_raw I sq) hn
  have fin : ∀ out : List Value, SrtO.Srtd (fun v u => SrtO.lexB (kP s.heap v) (kP s.heap u)) out → SrtO.Stb (fun v u => SrtO.lexB (kP s.heap v) (kP s.heap u)) out its → ∀ (s' : Shared) (d : Addr), (∀ b o, s.heap.get? b = some o → s'.heap.get? b = some o) → s.heap.objs.size ≤ d → (∃ n, s'.heap.get? d = some (seqObj "list" out.toArray n)) → { s with heap := s'.heap } = s' → ∃ v H', Inv X pins σ H' s' ∧ RelV v (.ref d) ∧ Q v H' := by
    intro out h1 h2 s' d kp hd ⟨n, hn⟩ es
    have h3 : ∀ u ∈ out, ∃ a, u = Value.ref a := fun u hu => e2 u (h2.perm.mem_iff.mp hu)
    have hp : (out.map bkV).Perm xs := by rw [e1]; exact h2.perm.map bkV
    have hle : (out.map bkV).length ≤ sizeLine := by rw [hp.length_eq]; exact Nat.le_trans h64 (by decide)
    rw [← es]
    refine ⟨.ref d, upd H d (.lst (out.map bkV)), I.laid (t' := s.toks) kp hd ⟨hle, out, n, bkV_vals h3, hn⟩, rfl, q _ _ hp ?_ (I.hok.fresh hd)⟩
    rw [List.pairwise_map]
    refine List.Pairwise.imp_of_mem (fun {u v} hu hv huv n m hn hm => ?_) h1
    obtain ⟨t, et, sq⟩ := hn
    obtain ⟨t', et', sq'⟩ := hm
    have i1 : TS.intsOf s.heap u = n := by rw [bkV_ref et]; exact (tupI_raw I sq).ints
    have i2 : TS.intsOf s.heap v = m := by rw [bkV_ref et']; exact (tupI_raw I sq').ints
    have b1 : n.length = 2 ∧ TS.Bd B n := by
      obtain ⟨ns, ⟨t0, e0, sq0⟩, z1, z2⟩ := hx (bkV u) (by rw [e1]; exact List.mem_map.mpr ⟨_, h2.perm.mem_iff.mp hu, rfl⟩)
      rw [et] at e0; cases e0
      have : n = ns := (tupI_raw I sq).ints.symm.trans (tupI_raw I sq0).ints
      rw [this]; exact ⟨z1, z2⟩
    have b2 : m.length = 2 ∧ TS.Bd B m := by
      obtain ⟨ns, ⟨t0, e0, sq0⟩, z1, z2⟩ := hx (bkV v) (by rw [e1]; exact List.mem_map.mpr ⟨_, h2.perm.mem_iff.mp hv, rfl⟩)
      rw [et'] at e0; cases e0
      have : m = ns := (tupI_raw I sq').ints.symm.trans (tupI_raw I sq0).ints
      rw [this]; exact ⟨z1, z2⟩
    refine lex_code b1.1 b2.1 b1.2 b2.2 ?_
    have h4 : SrtO.lexB (kP s.heap v) (kP s.heap u) = false := huv
    unfold kP at h4
    rw [i1, i2] at h4
    exact h4
  rcases hT with hT | hT
  · exact ord_anyT hT hl6 hpair fun out h1 h2 => fin out h1 h2 _ _ (fun b o e => sortedAll_old e) (Nat.le_succ _) (sortedAll_at s.heap its out.toArray) rfl
  · exact SrtO.sorted_pairsO hT hl6 hpair fun h' d out h1 h2 kp hd hn => fin out h1 h2 _ d kp hd hn rfl
def rSortB (K : PySem.W.Frag) (d : Nat) (B : Int) : List V → Hp → VK → Prop := fun vs H Q => ∃ (a : Addr) (xs : List V), vs = [V.ref a] ∧ (SqL K H a xs ∨ SqT K H a xs) ∧ (xs.length < 64 ∨ (d = 2 ∧ xs.length ≤ 64)) ∧ (∀ x ∈ xs, ∃ ns, TupI K H x ns ∧ ns.length = d ∧ TS.Bd B ns) ∧
  ∀ (ys : List V) (p : Addr), ys.Perm xs → ys.Pairwise (fun x y => ∀ n m, TupI K H x n → TupI K H y m → TS.code B n ≤ TS.code B m) → H p = none → Q (.ref p) (upd H p (.lst ys))
theorem cr_sortB {X : Cx} {d : Nat} {B : Int} (hd : 1 ≤ d) : CallR X (.builtin "sorted") (rSortB X.K d B) := by
  intro pins s σ H vs us Q I r h
  obtain ⟨a, xs, ev, hs, h64 | ⟨rfl, h64⟩, hx, q⟩ := h
  · exact cr_sortB0 hd pins s σ H vs us Q I r ⟨a, xs, ev, hs, h64, hx, q⟩
  · exact cr_sortB2 pins s σ H vs us Q I r ⟨a, xs, ev, hs, h64, hx, q⟩
theorem rows_back {K : PySem.W.Frag} {G : Hp} : ∀ {vs : List V} {rs : List (List Int)}, Paired (fun v r => ∃ t, v = .ref t ∧ SqT K G t (r.map V.int)) vs rs → RpL K G vs (rs.map rowD)
  | _, _, .nil => .nil
  | _, _, .cons ⟨t, e, sq⟩ r => by subst e; exact .cons (.tup sq RpL.of_ints) (rows_back r)
/-- of any width -/
def sortIX : DC := fun O xs Q => ∃ (d : Nat) (b : Int), 1 ≤ d ∧ sortID d b O xs Q
def rSortX (K : PySem.W.Frag) : List V → Hp → VK → Prop := fun vs H Q => ∃ (d : Nat) (b : Int), 1 ≤ d ∧ rSortB K d b vs H Q
theorem cr_sortX {X : Cx} : CallR X (.builtin "sorted") (rSortX X.K) := fun pins s σ H vs us Q I r ⟨d, b, hd, h⟩ => cr_sortB hd pins s σ H vs us Q I r h
theorem sortI_run {X : Cx} {B : Bo} {d : Nat} {b : Int} {O : Ow} {G H : Hp} {vs : List V} {ds : List D} {Q : VK} (g : Good X.K B O G H) (r : RpL X.K G vs ds) (h : sortID d b O ds fun d => kv X.K B O G H Q d O) : rSortB X.K d b vs H Q := by

  unfold sortID at h
  split at h
  · rename_i x
    obtain ⟨ds, rs, ek, rfl, l6, hr, h⟩ := h
    cases r with
    | cons r1 t =>
      cases t
      have rx := lk_rp g r1
      rename_i v0
      have key : ∃ a ws, v0 = V.ref a ∧ (SqL X.K H a ws ∨ SqT X.K H a ws) ∧ RpL X.K G ws (rs.map rowD) := by
        rcases ek with ek | ek
        · rw [ek] at rx
          obtain ⟨a, ws, ev, hl, rl⟩ := rx.lst g.sub
          exact ⟨a, ws, ev, .inl (.inl (.inl hl)), rl⟩
        · rw [ek] at rx
          obtain ⟨a, ws, ev, hl, rl⟩ := rx.tup g.sub
          exact ⟨a, ws, ev, .inr hl, rl⟩
      obtain ⟨a, ws, rfl, hsq, rl⟩ := key
      have pr := rows_tupI g.sub rl
      have hlen : ws.length = rs.length := by rw [rl.length, List.length_map]
      refine ⟨a, ws, rfl, hsq, by rw [hlen]; exact l6, fun x hx => ?_, fun ys p hp hpw n => ?_⟩
      · obtain ⟨rs1, q1, q2⟩ := mem_pr pr hx
        exact ⟨rs1, q2.1, (hr _ q1).1, (hr _ q1).2⟩
      · obtain ⟨rs', p', hpr⟩ := perm_paired hp pr
        have hm : ∀ r ∈ rs', r.length = d ∧ TS.Bd b r := fun r hr' => hr r (hpr.mem_iff.mp hr')
        have hs : rs'.Pairwise fun a b => leI a b = true := by
          have pm : Paired (fun v r => (TupI X.K H v r ∧ ∃ t, v = .ref t ∧ SqT X.K G t (r.map V.int)) ∧ r ∈ rs') ys rs' := mem_paired p' fun _ h => h
          refine paired_pw (fun x y a c hx hy hxy => ?_) pm hpw
          exact decide_eq_true (code_le (by rw [(hm _ hx.2).1, (hm _ hy.2).1]) (hm _ hx.2).2 (hm _ hy.2).2 (hxy _ _ hx.1.1 hy.1.1))
        rw [srtI_of hpr hs] at p'
        exact h _ _ _ (Step.new g n) (new_lst g n (rows_back (imp_paired (fun _ _ z => z.2) p')))
  · exact h.elim
where
  mem_pr {α β : Type} {R : α → β → Prop} : ∀ {xs : List α} {rs : List β}, Paired R xs rs → ∀ {x : α}, x ∈ xs → ∃ r ∈ rs, R x r
    | _, _, .nil, _, h => by cases h
    | _, _, .cons r t, x, h => by
      rcases List.mem_cons.mp h with rfl | h
      · exact ⟨_, List.mem_cons_self, r⟩
      · obtain ⟨y, hy, q⟩ := mem_pr t h
        exact ⟨y, List.mem_cons_of_mem _ hy, q⟩
  mem_paired {α β : Type} {R : α → β → Prop} {S : β → Prop} : ∀ {xs : List α} {rs : List β}, Paired R xs rs → (∀ b ∈ rs, S b) → Paired (fun x b => R x b ∧ S b) xs rs
    | _, _, .nil, _ => .nil
    | _, _, .cons r t, h => .cons ⟨r, h _ List.mem_cons_self⟩ (mem_paired t fun b hb => h b (List.mem_cons_of_mem _ hb))
  imp_paired {α β : Type} {R S : α → β → Prop} (h : ∀ a b, R a b → S a b) : ∀ {xs : List α} {rs : List β}, Paired R xs rs → Paired S xs rs
    | _, _, .nil => .nil
    | _, _, .cons r t => .cons (h _ _ r) (imp_paired h t)
theorem cd_sortI {X : Cx} {B : Bo} : CallD X B (.builtin "sorted") sortIX := by
  refine ⟨fun O x Q Q' q ⟨d, b, hd, z⟩ => ⟨d, b, hd, ?_⟩, _, cr_sortX, fun O G H vs ds Q g r ⟨d, b, hd, h⟩ => ⟨d, b, hd, sortI_run g r h⟩⟩
  unfold sortID at z ⊢
  split at z
  · obtain ⟨ds, rs, a, e, l, k, z⟩ := z; exact ⟨ds, rs, a, e, l, k, q _ z⟩
  · exact z
end EV
set_option Elab.async false
set_option linter.all false
set_option maxRecDepth 100000
set_option maxHeartbeats 4000000
/-! t + u with t perhaps empty; k in d -/
namespace EV
open PySem PySem.Spec PyProof.Rows L2
section
variable {X : Cx} {B : Bo}
theorem op_dnotin (hu : X.A.units + 1 < cLine) : OpR X (compareOp .NotIn) (fun x y H Q => ∃ a ov, y = V.ref a ∧ DGet H a x ov ∧ Q (.bl (!ov.isSome)) H) := by
  intro pins s σ H x y v u Q I rx ry h
  obtain ⟨a, ov, rfl, g, q⟩ := h
  cases ry
  exact d_notIn hu I g rx fun s3 I3 => ⟨.bl (!ov.isSome), H, I3, rfl, q⟩
def inDic (f : Bool → Bool) : D2 := fun O x y Q => atDic (lk O y) x fun d => Q (.bl (f d.isSome))
theorem dic_run {f : Bool → Bool} {O : Ow} {G H : Hp} {x y : V} {a b : D} {Q : VK} (gd : Good X.K B O G H) (r1 : Rp X.K G x a) (r2 : Rp X.K G y b) (q : inDic f O a b fun d => kv X.K B O G H Q d O) : ∃ p ov, y = V.ref p ∧ DGet H p x ov ∧ Q (.bl (f ov.isSome)) H := by
  obtain ⟨p, r, d, rfl, hg, hq, h1, h2⟩ := atDic_run gd r2 r1 q
  refine ⟨p, r, rfl, hg, ?_⟩
  have e : r.isSome = d.isSome := by
    cases d with
    | none => rw [h2 rfl]; rfl
    | some d => obtain ⟨v, rfl, _⟩ := h1 d rfl; rfl
  rw [e]
  exact hq _ _ _ (Step.refl gd) (.bl _)
theorem od_notinDic (hu : X.A.units + 1 < cLine) : OpD X B (compareOp .NotIn) (inDic not) :=
  ⟨fun O x y Q Q' q z => atDic_mo (fun _ w => q _ w) z, _, op_dnotin hu, fun O G H x y a b Q gd r1 r2 q => dic_run gd r1 r2 q⟩
theorem call_lenR : CallR X (.builtin "len") (fun xs H Q => ∃ a kvs, xs = [V.ref a] ∧ Rd H a (.dK kvs) ∧ Q (.int kvs.length) H) := by
  intro pins s σ H xs us Q I r h
  obtain ⟨a, kvs, ex, ha, q⟩ := h
  subst ex
  obtain ⟨u, eu, ru⟩ := vals1 r
  subst eu
  cases ru
  exact d_len I ha fun t s' I' => ⟨.int kvs.length, H, I', ⟨t, rfl⟩, q⟩
theorem op_inDT (hu : X.A.units + 65 < cLine) : OpR X (compareOp .In) (fun x y H Q => ∃ d ds, Dp X.K H x d ∧ Dp X.K H y (.tuple ds) ∧ SeqAt.shaped d = true ∧ SeqAt.shaped (.list ds) = true ∧ Q (.bl (ds.any fun z => PyData.eqv z d)) H) := by
  intro pins s σ H x y v u Q I rx ry h
  obtain ⟨d, ds, hd, he, sd, se, q⟩ := h
  obtain ⟨as, r1⟩ := Dp.reads I d x v hd rx
  obtain ⟨bs, r2⟩ := Dp.reads I (.tuple ds) y u he ry
  exact SeqAt.in_tuple_reads r2 r1 (SeqAt.canLay_of_shaped se) (SeqAt.canLay_of_shaped sd) (room_in_shaped sd hu) ⟨.bl _, H, I, rfl, q⟩
def inLTD : P2 := fun a y Q => ∃ xs, (y = .lst xs ∨ y = .tup xs) ∧ ∃ x ys, toP a = some x ∧ toPs xs = some ys ∧ SeqAt.shaped x = true ∧ SeqAt.shaped (.list ys) = true ∧ Q (.bl (ys.any fun z => PyData.eqv z x))
theorem od_inLT (hu : X.A.units + 65 < cLine) : OpD X B (compareOp .In) (pu inLTD) := by
  refine ⟨fun O x y Q Q' q ⟨xs, e, a, ys, h1, h2, h3, h4, z⟩ => ⟨xs, e, a, ys, h1, h2, h3, h4, q _ z⟩, _, (op_inD hu).or (op_inDT hu), fun O G H x y a b Q gd r1 r2 ⟨xs, e, p, ys, h1, h2, h3, h4, q⟩ => ?_⟩
  have d1 := Rp.dp gd.sub r1 h1
  rcases e with rfl | rfl
  · have d2 := Rp.dp gd.sub r2 (show toP (.lst xs) = some (.list ys) by rw [toP, h2]; rfl)
    exact .inl ⟨_, _, d1, d2, h3, h4, q _ _ _ (Step.refl gd) (.bl _)⟩
  · have d2 := Rp.dp gd.sub r2 (show toP (.tup xs) = some (.tuple ys) by rw [toP, h2]; rfl)
    exact .inr ⟨_, _, d1, d2, h3, h4, q _ _ _ (Step.refl gd) (.bl _)⟩
def lenK : DC := fun O xs Q => match xs with
  | [x] => (match lk O x with
    | .dic kds => Q (.int kds.length)
    | _ => False)
  | _ => False
theorem cd_lenK : CallD X B (.builtin "len") lenK := by
  refine ⟨fun O x Q Q' q z => ?_, _, call_lenR, fun O G H vs ds Q g r h => ?_⟩
  · unfold lenK at z ⊢
    split at z
    · split at z
      · exact q _ z
      · exact z
    · exact z
  · unfold lenK at h
    split at h
    · split at h
      · rename_i x kds e
        obtain ⟨a, kvs, rfl, hr, rk⟩ := dic_of g r e
        exact ⟨a, kvs, rfl, hr, by rw [rk.length]; exact h _ _ _ (Step.refl g) (.int _)⟩
      · exact h.elim
    · exact h.elim
end
end EV
set_option Elab.async false
set_option linter.all false
set_option maxRecDepth 100000
set_option maxHeartbeats 4000000
set_option pp.maxSteps 400
/-! are_things; loops whose handles change -/
namespace LW
open PySem PySem.Spec PyProof.Rows L2 EV PySem.XO PySem.W LamX
theorem st_forO {mi : DI} {g : DG} {b rest : DS} {A : DEnds} {ρ : Slots} {O : Ow} (xs : List D) (J : Nat → Slots → Ow → Prop) (h : ∀ Q E, Q (tt1, xs) O → mi ρ O Q E) (j0 : J 0 ρ O)
    (step : ∀ i d, xs[i]? = some d → ∀ ρ O', J i ρ O' → ∀ N : Slots → Ow → Prop, (∀ r O2, J (i + 1) r O2 → N r O2) → g d ρ fun ρ' => b { nx := N, rt := A.rt, bk := rest A, ct := N, ex := A.ex } ρ' O') (k : ∀ r O', J xs.length r O' → rest A r O') : dSeq (dFor mi g b) rest A ρ O := by
  refine h _ _ ?_
  refine forW_at (I := tt1) xs J (fun _ _ _ _ => trivial) ?_ k (i := 0) rfl (Nat.zero_le _) j0
  exact fun i d e ρ O' hj N hN => step i d e ρ O' hj N hN
theorem st_setD {m : DE} {i : Nat} {rest : DS} {A : DEnds} {ρ : Slots} {O : Ow} (d : D) (h : ∀ Q E, Q d O → m ρ O Q E) (k : rest A (ρ.set i (.sh d)) O) : dSeq (dAsg m (dgName i)) rest A ρ O := h _ _ k
theorem st_setL {m : DE} {i : Nat} {A : DEnds} {ρ : Slots} {O : Ow} (d : D) (h : ∀ Q E, Q d O → m ρ O Q E) (k : A.nx (ρ.set i (.sh d)) O) : dAsg m (dgName i) A ρ O := h _ _ k
theorem ax0 {d0 : D} {xs : List D} : atI (d0 :: xs) 0 = some d0 := (show atI _ ((0 : Nat) : Int) = _ from atI_nat rfl)
theorem ax1 {d0 d1 : D} {xs : List D} : atI (d0 :: d1 :: xs) 1 = some d1 := (show atI _ ((1 : Nat) : Int) = _ from atI_nat rfl)
theorem nodup_map {α β : Type} {f : α → β} (hf : ∀ x y, f x = f y → x = y) {l : List α} (h : l.Nodup) : (l.map f).Nodup := List.pairwise_map.mpr (h.imp fun ne e => ne (hf _ _ e))
def Flat (d : D) : Prop := (tyD d).isSome = true ∧ ∀ y, d = .str y → y.length ≤ sizeLine
theorem num_int {x : D} {a b : Int} (h : isNum x a b = true) : ∃ i : Int, x = .int i ∧ a ≤ i ∧ i ≤ b := by
  cases x <;> first | cases h; done | skip
  rename_i i
  have h : (decide (a ≤ i) && decide (i ≤ b)) = true := h
  rw [Bool.and_eq_true] at h
  exact ⟨i, rfl, of_decide_eq_true h.1, of_decide_eq_true h.2⟩
theorem st_forJL {mi : DI} {g : DG} {b : DS} {A : DEnds} {ρ : Slots} {O : Ow} (xs : List D) (J : Nat → Slots → Prop) (h : ∀ Q E, Q (tt1, xs) O → mi ρ O Q E) (j0 : J 0 ρ)
    (step : ∀ i d, xs[i]? = some d → ∀ ρ, J i ρ → ∀ N : Slots → Ow → Prop, (∀ r, J (i + 1) r → N r O) → g d ρ fun ρ' => b { nx := N, rt := A.rt, bk := A.nx, ct := N, ex := A.ex } ρ' O) (k : ∀ r, J xs.length r → A.nx r O) : dFor mi g b A ρ O :=
  st_forJ (rest := fun A' => A'.nx) (A := A) xs J h j0 step k
theorem val_lenH {mA : DA} {ρ : Slots} {O : Ow} {p : Addr} {rs : List D} (e : O p = some (.lst rs)) (h : ∀ Q E, Q [.opq (.ref p)] O → mA ρ O Q E) : ∀ Q E, Q (.int rs.length) O → dCB lenO mA ρ O Q E := fun Q E q => h _ _ (by
  show lenO O [.opq (.ref p)] fun d => Q d O
  unfold lenO
  rw [List.map_cons, lk_of e]
  exact q)
abbrev s_are_things : Stmt := topS 26
abbrev N_are_things : List Str := ["values", "many", "size", "value"]
theorem sc_are_things : FnScope N_are_things ["values", "many", "size"] (defScope s_are_things) := ⟨rfl, rfl, rfl, by decide +kernel, rfl, by decide +kernel, by decide +kernel⟩
def isTh (xs : List D) (many size : Int) : Bool := decide ((xs.length : Int) = many) && xs.all fun x => isNum x 0 (size - 1)
def thS : DSp := fun ds O Q _ => ∃ v xs many size, ds = [v, .int many, .int size] ∧ Seq v xs ∧ xs.length ≤ 1000 ∧ (∀ x ∈ xs, (tyD x).isSome = true) ∧ Q (.bl (isTh xs many size)) O
theorem val_andV {ma mb : DE} {ρ : Slots} {O : Ow} (b c : Bool) (h : ∀ Q E, Q (.bl b) O → ma ρ O Q E) (k : ∀ Q E, Q (.bl c) O → mb ρ O Q E) : ∀ Q E, Q (.bl (b && c)) O → dAndV ma mb ρ O Q E := fun Q E q => h _ _ (by
  cases b with
  | true => exact k _ _ q
  | false => exact q)
theorem val_all {mi : DI} {g : DG} {te : DE} {vs : List Nat} {ρ : Slots} {O : Ow} (ds : List D) (p : D → Bool) (hl : ds.length ≤ 1000) (hi : ∀ Q E, Q (tt1, ds) O → mi ρ O Q E) (he : ∀ d ∈ ds, ∀ Qy : QD, Qy (.bl (p d)) O → g d (wipeD ρ vs) fun ρ' => te ρ' O Qy fun _ _ => False) : ∀ Q E, Q (.bl (ds.all p)) O → dCB (pc allD) (dCons (dLc mi g dYes te vs) dNil) ρ O Q E := fun Q E q =>
  hi _ _ (lcW_map (I := tt1) trivial (fun d => .bl (p d)) he (by rw [List.length_nil]; exact szk (by dsimp only; omega)) (by
    show allD [.lst (ds.map fun d => .bl (p d))] fun d => Q d O
    refine allD_of (toBs_map p ds) ?_
    rw [List.all_map]
    exact q))
abbrev s_is_listed : Stmt := topS 23
abbrev N_is_listed : List Str := ["value"]
theorem sc_is_listed : FnScope N_is_listed ["value"] (defScope s_is_listed) := ⟨rfl, rfl, rfl, by decide +kernel, rfl, by decide +kernel, by decide +kernel⟩
def isLst : D → Bool
  | .lst _ => true
  | .tup _ => true
  | _ => false
def listedS : DSp := fun ds O Q _ => ∃ v, ds = [v] ∧ (tyD v).isSome = true ∧ Q (.bl (isLst v)) O
theorem st_fld {C : Addr} {f : Str} {mo m : DE} {rest : DS} {A : DEnds} {ρ : Slots} {O : Ow} (p : Addr) (d : D) (fs : List (Str × D)) (h : ∀ Q E, Q d O → m ρ O Q E) (ho : ∀ Q E, Q (.opq (.ref p)) O → mo ρ O Q E) (e : O p = some (.ins C fs)) (hl : fs.length < 1000) (k : rest A ρ (oset O p (.ins C (putD f d fs)))) : dSeq (dSetF C f mo m) rest A ρ O := h _ _ (ho _ _ ⟨fs, e, hl, k⟩)
theorem st_fld1 {C : Addr} {f : Str} {mo m : DE} {A : DEnds} {ρ : Slots} {O : Ow} (p : Addr) (d : D) (fs : List (Str × D)) (h : ∀ Q E, Q d O → m ρ O Q E) (ho : ∀ Q E, Q (.opq (.ref p)) O → mo ρ O Q E) (e : O p = some (.ins C fs)) (hl : fs.length < 1000) (k : A.nx ρ (oset O p (.ins C (putD f d fs)))) : dSetF C f mo m A ρ O := h _ _ (ho _ _ ⟨fs, e, hl, k⟩)
theorem val_orT {t u : DT} {ρ : Slots} {O : Ow} (b c : Bool) (h : ∀ Q E, Q b O → t ρ O Q E) (k : b = false → ∀ Q E, Q c O → u ρ O Q E) : ∀ Q E, Q (b || c) O → dOr t u ρ O Q E := fun Q E q => h _ _ (by
  cases b with
  | true => exact q
  | false => exact k rfl _ _ q)
theorem val_seqI {m : DE} {ρ : Slots} {O : Ow} {d : D} {xs : List D} (hd : Seq d xs) (h : ∀ Q E, Q d O → m ρ O Q E) : ∀ Q E, Q (tt1, xs) O → dIter m ρ O Q E := fun Q E q => h _ _ (by
  rcases hd with rfl | rfl <;> exact q)
theorem isLst_seq {d : D} (h : isLst d = true) : ∃ xs, Seq d xs := by
  cases d <;> first | exact ⟨_, .inl rfl⟩ | exact ⟨_, .inr rfl⟩ | cases h
theorem flat_str {y : Str} (h : y.length ≤ 1000) : Flat (.str y) := ⟨rfl, fun z e => by cases e; exact szk h⟩
theorem flat_tup {xs : List D} : Flat (.tup xs) := ⟨rfl, fun y e => by cases e⟩
theorem nm_len {y : Str} (h : isNm (.str y) = true) : y.length ≤ 6 := by
  simp only [isNm, Bool.and_eq_true, decide_eq_true_eq] at h
  exact h.1.2
section
variable {P : Program} {w : World} {K : PySem.W.Frag} {mg : Str → Option Value} {base : Heap}
theorem ok_are_things {f fN : Addr} {fd fdN : FuncData} (F : Fun K "are_things" "are_things" s_are_things f fd) (G_is_number : FnOk P w K mg base CX0 1 fN fdN ["value", "least", "most"] (spD K numS)) (T_is_number : Gf K mg "is_number" fN fdN ["value", "least", "most"])
    (m_len : mg "len" = none) (m_all : mg "all" = none) : FnOk P w K mg base CX0 2 f fd ["values", "many", "size"] (spD K thS) := by
  refine fn_pure F sc_are_things (fun ds O Q E h => ?_) (fun cdv A outer s H E hr =>
    (d_sone (d_ret (d_and (d_cmp (od_eq hr.units) (d_callB cd_len rfl m_len boot_len (d_cons (d_var (i := 0) rfl (.inl rfl) (by decide) (by decide)) d_nil rfl) (by decide) (by decide) rfl rfl) (d_var (i := 1) rfl (.inl rfl) (by decide) (by decide)) (nomark _)) (d_one (d_callB (cd_all rfl) rfl m_all boot_all (d_cons (d_lc rfl sc_are_things.nd (d_iter (d_var (i := 0) rfl (.inl rfl) (by decide) (by decide))) (blkOk_by (own := [("value", 3)]) (N := N_are_things) (sc := defScope s_are_things) (by decide +kernel)) (fun _ _ _ _ _ => (dg_name (i := 3) sc_are_things.nd rfl (.inl rfl) (.inr rfl))) (fun _ _ _ _ _ => d_ifs0) (fun _ _ _ _ _ => (d_call G_is_number (hr.mono (by decide)) rfl T_is_number.m T_is_number.k T_is_number.b (fun _ => pass0A) (d_cons (d_var (i := 3) rfl (.inl rfl) (by decide) (by decide)) (d_cons d_int (d_cons (d_op od_sub (d_var (i := 2) rfl (.inr (.inl rfl)) (by decide) (by decide)) d_int) d_nil rfl) rfl) rfl) (by decide) rfl rfl)) (by decide +kernel) (fun _ => rfl)) d_nil rfl) (by decide) (by decide) rfl rfl)))))) (fun ds O Q E h => ?_) (fun ds O Q E h => h)
  · obtain ⟨v, xs, many, size, rfl, _⟩ := h; rfl
  · obtain ⟨v, xs, many, size, rfl, hv, hl, ht, q⟩ := h
    rw [show startD N_are_things [v, .int many, .int size] = [.sh v, .sh (.int many), .sh (.int size), .un] from rfl]
    refine val_retX ?_
    have hlen : ∀ Q E, Q (.int xs.length) O → dCB lenO (dCons (dVar 0) dNil) [.sh v, .sh (.int many), .sh (.int size), .un] O Q E := val_len hv fun Q E q => q
    refine val_andV (decide ((xs.length : Int) = many)) _ (val_op (.int xs.length) (.int many) _ hlen (fun Q E q => q) fun Q q => q) (val_all xs (fun x => isNum x 0 (size - 1)) hl ?_ ?_) _ _ q
    · rcases hv with rfl | rfl <;> exact fun Q E q => q
    · intro d hd Qy hq
      refine tg_one [.sh v, .sh (.int many), .sh (.int size), .sh d] rfl ?_
      exact val_call [d, .int 0, .int (size - 1)] _ (val_cons _ _ (fun Q E q => q) (val_cons _ _ (fun Q E q => q) (val_cons _ _ (val_op (.int size) (.int 1) _ (fun Q E q => q) (fun Q E q => q) fun Q q => ⟨trivial, q⟩) val_nil))) (fun Q E q => ⟨d, 0, size - 1, rfl, ht d hd, q⟩) _ _ hq
theorem ok_is_listed {f : Addr} {fd : FuncData} (F : Fun K "is_listed" "is_listed" s_is_listed f fd) (m_isinstance : mg "isinstance" = none) (m_list : mg "list" = none) (m_tuple : mg "tuple" = none) :
    FnOk P w K mg base CX0 1 f fd ["value"] (spD K listedS) := by
  refine fn_pure F sc_is_listed (fun ds O Q E h => ?_) (fun cdv A outer s H E hr =>
    (d_sone (d_ret (d_isiT rfl m_isinstance (d_var (i := 0) rfl (.inl rfl) (by decide) (by decide)) (d_cons (d_ty rfl m_list boot_list (by decide) (by decide)) (d_cons (d_ty rfl m_tuple boot_tuple (by decide) (by decide)) d_nil rfl) rfl) rfl rfl rfl)))) (fun ds O Q E h => ?_) (fun ds O Q E h => h)
  · obtain ⟨v, rfl, _⟩ := h; rfl
  · obtain ⟨v, rfl, ty, q⟩ := h
    rw [show startD N_is_listed [v] = [.sh v] from rfl]
    cases v <;> first | cases ty; done | exact ⟨show 2 ≤ 100 by decide, rfl, q⟩
end
end LW
set_option Elab.async false
set_option linter.all false
set_option maxRecDepth 100000
set_option maxHeartbeats 4000000
set_option pp.maxSteps 400
/-! is_listed, inner, bound, used, is_test -/
namespace LW
open PySem PySem.Spec PyProof.Rows L2 EV PySem.XO PySem.W LamX
local macro_rules | `(tactic| walk_at "n") => `(tactic| refine st_norm (by simp only [List.set_cons_succ, List.set_cons_zero]; rfl) ?_)
/-- of a known kind, of no great size -/
def lenN : List (Str × Int) := [("has", 3), ("link", 4), ("same", 3), ("less", 3), ("not", 2), ("and", 3), ("or", 3), ("some", 3), ("all", 3), ("count", 4), ("way", 6), ("within", 7)]
def lenT : List (Str × D) := [("has", .int 3), ("link", .int 4), ("same", .int 3), ("less", .int 3), ("not", .int 2), ("and", .int 3), ("or", .int 3), ("some", .int 3), ("all", .int 3), ("count", .int 4), ("way", .int 6), ("within", .int 7)]
def placesT : List (Str × D) := [("has", .int 1), ("link", .int 2)]
def isOf (z : Str) (l : List Str) : Bool := l.any fun y => decide (z = y)
def gNot : List Str := ["not", "and", "or"]
def gSome : List Str := ["some", "all"]
def gCount : List Str := ["count", "way"]
def gBound : List Str := ["some", "all", "count"]
def gHas : List Str := ["has", "link"]
def gSame : List Str := ["same", "less"]
def gWay : List Str := ["way", "within"]
def gLeast : List Str := ["least", "most"]
def innerL (z : Str) (xs : List D) : List D := if isOf z gNot then xs else if isOf z gSome then [xs.getD 1 .non] else if isOf z gCount then [xs.getD 2 .non] else if z = "within" then [xs.getD 3 .non] else []
def boundL (z : Str) (xs : List D) : List D := if isOf z gBound then [xs.getD 0 .non] else if z = "way" then [xs.getD 0 .non, xs.getD 1 .non] else if z = "within" then [xs.getD 1 .non, xs.getD 2 .non] else []
def usedL (z : Str) (xs : List D) : List D := if isOf z gHas then xs.drop 1 else if isOf z gSame then xs else if isOf z gWay then xs.drop (xs.length - 2) else []
/-- a saying's head, by its length -/
def Shp (z : Str) (xs : List D) : Prop := lenN.lookup z = some ((xs.length : Int) + 1)
def headS (f : Str → List D → List D) : DSp := fun ds O Q _ => ∃ z xs, ds = [.tup (.str z :: xs)] ∧ Shp z xs ∧ Q (.lst (f z xs)) O
abbrev s_inner : Stmt := topS 52
abbrev N_inner : List Str := ["saying"]
theorem sc_inner : FnScope N_inner ["saying"] (defScope s_inner) := ⟨rfl, rfl, rfl, by decide +kernel, rfl, by decide +kernel, by decide +kernel⟩
abbrev s_bound : Stmt := topS 53
abbrev N_bound : List Str := ["saying"]
theorem sc_bound : FnScope N_bound ["saying"] (defScope s_bound) := ⟨rfl, rfl, rfl, by decide +kernel, rfl, by decide +kernel, by decide +kernel⟩
abbrev s_used : Stmt := topS 54
abbrev N_used : List Str := ["saying"]
theorem sc_used : FnScope N_used ["saying"] (defScope s_used) := ⟨rfl, rfl, rfl, by decide +kernel, rfl, by decide +kernel, by decide +kernel⟩
abbrev s_is_test : Stmt := topS 55
abbrev N_is_test : List Str := ["value"]
theorem sc_is_test : FnScope N_is_test ["value"] (defScope s_is_test) := ⟨rfl, rfl, rfl, by decide +kernel, rfl, by decide +kernel, by decide +kernel⟩
def isTest : D → Bool
  | .tup (.str z :: x :: t) => if isOf z gLeast then decide (t.length = 0) && isNum x 0 8 else if z = "rest" then (match t with
    | [y] => (match x with
      | .int i => isNum x 2 8 && isNum y 0 (i - 1)
      | _ => false)
    | _ => false) else false
  | _ => false
def TestOk (v : D) : Prop := (tyD v).isSome = true ∧ ∀ xs, v = .tup xs → (∀ x ∈ xs, (tyD x).isSome = true) ∧ (2 ≤ xs.length → ∃ z t, xs = .str z :: t)
def testS : DSp := fun ds O Q _ => ∃ v, ds = [v] ∧ TestOk v ∧ Q (.bl (isTest v)) O
theorem shp_of {z : Str} {xs : List D} {n : Int} (h : Shp z xs) (e : lenN.lookup z = some n) : (xs.length : Int) + 1 = n := by
  unfold Shp at h
  rw [e] at h
  exact (Option.some.inj h).symm
theorem at_of {x : D} {xs : List D} {i : Nat} (h : i < xs.length) : atI (x :: xs) ((i + 1 : Nat) : Int) = some (xs.getD i .non) := by
  rw [getD_el h]
  exact atI_nat (by rw [List.getElem?_cons_succ]; exact List.getElem?_eq_getElem h)
theorem isOf_mem {z : Str} {l : List Str} (h : isOf z l = true) : z ∈ l := any_mem h
/-- x in (..), the first of a tuple -/
theorem val_hd {mA : DA} {ρ : Slots} {O : Ow} {i : Nat} {z : Str} {xs : List D} (f : Bool → Bool) (l : List Str) (hi : ∀ Q E, Q (.tup (.str z :: xs)) O → dVar i ρ O Q E) (hA : ∀ Q E, Q (l.map fun x => .str x) O → mA ρ O Q E) (hl : l.length ≤ 100) : ∀ Q E, Q (.bl (f (isOf z l))) O → dOp (pu (inSD f)) (dOp ixD (dVar i) (dC (.int 0))) (dTup mA) ρ O Q E :=
  val_inF f z l _ (val_ix (rs := .str z :: xs) (.inr rfl) hi (fun Q E q => q) ad0) (val_tup _ hA (by rw [List.length_map]; exact szk (by omega))) rfl
theorem val_hdE {ρ : Slots} {O : Ow} {i : Nat} {z : Str} {xs : List D} (y : Str) (hi : ∀ Q E, Q (.tup (.str z :: xs)) O → dVar i ρ O Q E) : ∀ Q E, Q (.bl (decide (z = y))) O → dOp (pu (eqD id)) (dOp ixD (dVar i) (dC (.int 0))) (dC (.str y)) ρ O Q E :=
  val_eqB z y _ (val_ix (rs := .str z :: xs) (.inr rfl) hi (fun Q E q => q) ad0) (fun Q E q => q) rfl
theorem val_it {ρ : Slots} {O : Ow} {i : Nat} {x : D} {xs : List D} {j : Int} (k : Nat) (e : ((k + 1 : Nat) : Int) = j) (hi : ∀ Q E, Q (.tup (x :: xs)) O → dVar i ρ O Q E) (hk : k < xs.length) : ∀ Q E, Q (xs.getD k .non) O → dOp ixD (dVar i) (dC (.int j)) ρ O Q E := by
  subst e
  exact val_ix (rs := x :: xs) (.inr rfl) hi (fun Q E q => q) (at_of hk)
theorem isTest_short {xs : List D} (h : xs.length < 2) : isTest (.tup xs) = false := by
  match xs, h with
  | [], _ => rfl
  | [x], _ => cases x <;> rfl
theorem val_andVq {ma mb : DE} {ρ : Slots} {O : Ow} (b c : Bool) (ha : ∀ Q E, Q (.bl b) O → ma ρ O Q E) (hb : b = true → ∀ Q E, Q (.bl c) O → mb ρ O Q E) : ∀ Q E, Q (.bl (b && c)) O → dAndV ma mb ρ O Q E := fun Q E q => ha _ _ (by
  cases b with
  | true => exact hb rfl _ _ q
  | false => exact q)
/-- list(x[-2:]) -/
theorem val_last2 {m : DE} {ρ : Slots} {O : Ow} (x : D) (xs : List D) (hl : 2 ≤ xs.length) (h : ∀ Q E, Q (.tup (x :: xs)) O → m ρ O Q E) : ∀ Q E, Q (.lst (xs.drop (xs.length - 2))) O → dCB listO (dCons (dSl m (dPart (dC (.int (-2)))) dNoPart) dNil) ρ O Q E := fun Q E q => h _ _ (by
  have h1 : HT.sIx (x :: xs).length 0 (some (-2)) = xs.length - 1 := by
    simp [HT.sIx]; omega
  have h2 : HT.sIx (x :: xs).length (x :: xs).length none = (x :: xs).length := by simp [HT.sIx]
  refine ⟨fun z => by rw [h1] at z; omega, ?_⟩
  show Q (.lst (EV.cutD (x :: xs) (some (-2)) none)) O
  have e : EV.cutD (x :: xs) (some (-2)) none = xs.drop (xs.length - 2) := by
    unfold EV.cutD
    rw [h1, h2, show xs.length - 1 = (xs.length - 2) + 1 by omega, List.drop_succ_cons]
    exact List.take_of_length_le (by rw [List.length_drop, List.length_cons]; omega)
  rw [e]; exact q)
section
variable {P : Program} {w : World} {K : PySem.W.Frag} {mg : Str → Option Value} {base : Heap}
theorem ok_inner {f : Addr} {fd : FuncData} (F : Fun K "inner" "inner" s_inner f fd) (m_list : mg "list" = none) : FnOk P w K mg base CX0 1 f fd ["saying"] (spD K (headS innerL)) := by
  refine fn_pure F sc_inner (fun ds O Q E h => ?_) (fun cdv A outer s H E hr =>
    (d_scons (d_ifS (d_tcmp od_inS (d_ix (d_var (i := 0) rfl (.inl rfl) (by decide) (by decide)) d_int (fun _ _ => rfl)) (d_tup (d_cons d_str (d_cons d_str (d_cons d_str d_nil rfl) rfl) rfl)) rfl) (d_sone (d_ret (d_callTy cd_list rfl m_list boot_list (d_cons (d_sl (d_var (i := 0) rfl (.inl rfl) (by decide) (by decide)) (d_part d_int) d_nopart) d_nil rfl) (by decide) (by decide) rfl rfl))) d_snil)
      (d_scons (d_ifS (d_tcmp od_inS (d_ix (d_var (i := 0) rfl (.inl rfl) (by decide) (by decide)) d_int (fun _ _ => rfl)) (d_tup (d_cons d_str (d_cons d_str d_nil rfl) rfl)) rfl) (d_sone (d_ret (d_lst (d_cons (d_ix (d_var (i := 0) rfl (.inl rfl) (by decide) (by decide)) d_int (fun _ _ => rfl)) d_nil rfl)))) d_snil)
      (d_scons (d_ifS (d_tcmp od_inS (d_ix (d_var (i := 0) rfl (.inl rfl) (by decide) (by decide)) d_int (fun _ _ => rfl)) (d_tup (d_cons d_str (d_cons d_str d_nil rfl) rfl)) rfl) (d_sone (d_ret (d_lst (d_cons (d_ix (d_var (i := 0) rfl (.inl rfl) (by decide) (by decide)) d_int (fun _ _ => rfl)) d_nil rfl)))) d_snil)
      (d_sone (d_ret (d_if (d_tcmp (od_eq hr.units) (d_ix (d_var (i := 0) rfl (.inl rfl) (by decide) (by decide)) d_int (fun _ _ => rfl)) d_str (nomark _)) (d_lst (d_cons (d_ix (d_var (i := 0) rfl (.inl rfl) (by decide) (by decide)) d_int (fun _ _ => rfl)) d_nil rfl)) (d_lst d_nil)))))))) (fun ds O Q E h => ?_) (fun ds O Q E h => h)
  · obtain ⟨z, xs, rfl, _⟩ := h; rfl
  · obtain ⟨z, xs, rfl, hs, q⟩ := h
    rw [show startD N_inner [.tup (.str z :: xs)] = [.sh (.tup (.str z :: xs))] from rfl]
    have hv : ∀ Q E, Q (.tup (.str z :: xs)) O → dVar 0 [.sh (.tup (.str z :: xs))] O Q E := fun Q E q => q
    refine st_if (isOf z gNot) (val_tstB _ (val_hd id gNot hv (fun Q E q => q) (by decide))) ?_
    unfold innerL at q
    cases e1 : isOf z gNot with
    | true =>
      rw [if_pos e1] at q
      exact bcT (val_retX (val_sl1 (.str z) xs (fun Q E q => q) _ _ q))
    | false =>
    rw [if_neg (by rw [e1]; decide)] at q
    refine bcN ?_
    dsimp only
    refine st_if (isOf z gSome) (val_tstB _ (val_hd id gSome hv (fun Q E q => q) (by decide))) ?_
    cases e2 : isOf z gSome with
    | true =>
      rw [if_pos e2] at q
      have hl : 1 < xs.length := by
        have hm := isOf_mem e2
        simp only [gSome, List.mem_cons, List.not_mem_nil, or_false] at hm
        rcases hm with rfl | rfl
        · have := shp_of (n := 3) hs rfl; omega
        · have := shp_of (n := 3) hs rfl; omega
      exact bcT (val_retX (val_lst _ (val_cons _ _ (val_it 1 rfl hv hl) val_nil) (le_sz rfl) _ _ q))
    | false =>
    rw [if_neg (by rw [e2]; decide)] at q
    refine bcN ?_
    dsimp only
    refine st_if (isOf z gCount) (val_tstB _ (val_hd id gCount hv (fun Q E q => q) (by decide))) ?_
    cases e3 : isOf z gCount with
    | true =>
      rw [if_pos e3] at q
      have hl : 2 < xs.length := by
        have hm := isOf_mem e3
        simp only [gCount, List.mem_cons, List.not_mem_nil, or_false] at hm
        rcases hm with rfl | rfl
        · have := shp_of (n := 4) hs rfl; omega
        · have := shp_of (n := 6) hs rfl; omega
      exact bcT (val_retX (val_lst _ (val_cons _ _ (val_it 2 rfl hv hl) val_nil) (le_sz rfl) _ _ q))
    | false =>
    rw [if_neg (by rw [e3]; decide)] at q
    refine bcN ?_
    dsimp only
    refine val_retX (val_if (decide (z = "within")) (val_tstB _ (val_hdE "within" hv)) ?_)
    cases e4 : decide (z = "within") with
    | true =>
      have ez := of_decide_eq_true e4
      rw [if_pos ez] at q
      have hl : 3 < xs.length := by
        subst ez
        have := shp_of (n := 7) hs rfl; omega
      exact bcT (val_lst _ (val_cons _ _ (val_it 3 rfl hv hl) val_nil) (le_sz rfl) _ _ q)
    | false =>
      rw [if_neg (of_decide_eq_false e4)] at q
      exact bcF (val_lst _ val_nil (le_sz rfl) _ _ q)
theorem ok_bound {f : Addr} {fd : FuncData} (F : Fun K "bound" "bound" s_bound f fd) : FnOk P w K mg base CX0 1 f fd ["saying"] (spD K (headS boundL)) := by
  refine fn_pure F sc_bound (fun ds O Q E h => ?_) (fun cdv A outer s H E hr =>
    (d_scons (d_ifS (d_tcmp od_inS (d_ix (d_var (i := 0) rfl (.inl rfl) (by decide) (by decide)) d_int (fun _ _ => rfl)) (d_tup (d_cons d_str (d_cons d_str (d_cons d_str d_nil rfl) rfl) rfl)) rfl) (d_sone (d_ret (d_lst (d_cons (d_ix (d_var (i := 0) rfl (.inl rfl) (by decide) (by decide)) d_int (fun _ _ => rfl)) d_nil rfl)))) d_snil)
      (d_scons (d_ifS (d_tcmp (od_eq hr.units) (d_ix (d_var (i := 0) rfl (.inl rfl) (by decide) (by decide)) d_int (fun _ _ => rfl)) d_str (nomark _)) (d_sone (d_ret (d_lst (d_cons (d_ix (d_var (i := 0) rfl (.inl rfl) (by decide) (by decide)) d_int (fun _ _ => rfl)) (d_cons (d_ix (d_var (i := 0) rfl (.inl rfl) (by decide) (by decide)) d_int (fun _ _ => rfl)) d_nil rfl) rfl)))) d_snil)
      (d_sone (d_ret (d_if (d_tcmp (od_eq hr.units) (d_ix (d_var (i := 0) rfl (.inl rfl) (by decide) (by decide)) d_int (fun _ _ => rfl)) d_str (nomark _)) (d_lst (d_cons (d_ix (d_var (i := 0) rfl (.inl rfl) (by decide) (by decide)) d_int (fun _ _ => rfl)) (d_cons (d_ix (d_var (i := 0) rfl (.inl rfl) (by decide) (by decide)) d_int (fun _ _ => rfl)) d_nil rfl) rfl)) (d_lst d_nil))))))) (fun ds O Q E h => ?_) (fun ds O Q E h => h)
  · obtain ⟨z, xs, rfl, _⟩ := h; rfl
  · obtain ⟨z, xs, rfl, hs, q⟩ := h
    rw [show startD N_bound [.tup (.str z :: xs)] = [.sh (.tup (.str z :: xs))] from rfl]
    have hv : ∀ Q E, Q (.tup (.str z :: xs)) O → dVar 0 [.sh (.tup (.str z :: xs))] O Q E := fun Q E q => q
    unfold boundL at q
    refine st_if (isOf z gBound) (val_tstB _ (val_hd id gBound hv (fun Q E q => q) (by decide))) ?_
    cases e1 : isOf z gBound with
    | true =>
      rw [if_pos e1] at q
      have hl : 0 < xs.length := by
        have hm := isOf_mem e1
        simp only [gBound, List.mem_cons, List.not_mem_nil, or_false] at hm
        rcases hm with rfl | rfl | rfl
        · have := shp_of (n := 3) hs rfl; omega
        · have := shp_of (n := 3) hs rfl; omega
        · have := shp_of (n := 4) hs rfl; omega
      exact bcT (val_retX (val_lst _ (val_cons _ _ (val_it 0 rfl hv hl) val_nil) (le_sz rfl) _ _ q))
    | false =>
    rw [if_neg (by rw [e1]; decide)] at q
    refine bcN ?_
    dsimp only
    refine st_if (decide (z = "way")) (val_tstB _ (val_hdE "way" hv)) ?_
    cases e2 : decide (z = "way") with
    | true =>
      have ez := of_decide_eq_true e2
      rw [if_pos ez] at q
      have hl : 1 < xs.length := by
        subst ez
        have := shp_of (n := 6) hs rfl; omega
      exact bcT (val_retX (val_lst _ (val_cons _ _ (val_it 0 rfl hv (by omega)) (val_cons _ _ (val_it 1 rfl hv hl) val_nil)) (le_sz rfl) _ _ q))
    | false =>
    rw [if_neg (of_decide_eq_false e2)] at q
    refine bcN ?_
    dsimp only
    refine val_retX (val_if (decide (z = "within")) (val_tstB _ (val_hdE "within" hv)) ?_)
    cases e4 : decide (z = "within") with
    | true =>
      have ez := of_decide_eq_true e4
      rw [if_pos ez] at q
      have hl : 2 < xs.length := by
        subst ez
        have := shp_of (n := 7) hs rfl; omega
      exact bcT (val_lst _ (val_cons _ _ (val_it 1 rfl hv (by omega)) (val_cons _ _ (val_it 2 rfl hv hl) val_nil)) (le_sz rfl) _ _ q)
    | false =>
      rw [if_neg (of_decide_eq_false e4)] at q
      exact bcF (val_lst _ val_nil (le_sz rfl) _ _ q)
theorem ok_used {f : Addr} {fd : FuncData} (F : Fun K "used" "used" s_used f fd) (m_list : mg "list" = none) : FnOk P w K mg base CX0 1 f fd ["saying"] (spD K (headS usedL)) := by
  refine fn_pure F sc_used (fun ds O Q E h => ?_) (fun cdv A outer s H E hr =>
    (d_scons (d_ifS (d_tcmp od_inS (d_ix (d_var (i := 0) rfl (.inl rfl) (by decide) (by decide)) d_int (fun _ _ => rfl)) (d_tup (d_cons d_str (d_cons d_str d_nil rfl) rfl)) rfl) (d_sone (d_ret (d_callTy cd_list rfl m_list boot_list (d_cons (d_sl (d_var (i := 0) rfl (.inl rfl) (by decide) (by decide)) (d_part d_int) d_nopart) d_nil rfl) (by decide) (by decide) rfl rfl))) d_snil)
      (d_scons (d_ifS (d_tcmp od_inS (d_ix (d_var (i := 0) rfl (.inl rfl) (by decide) (by decide)) d_int (fun _ _ => rfl)) (d_tup (d_cons d_str (d_cons d_str d_nil rfl) rfl)) rfl) (d_sone (d_ret (d_callTy cd_list rfl m_list boot_list (d_cons (d_sl (d_var (i := 0) rfl (.inl rfl) (by decide) (by decide)) (d_part d_int) d_nopart) d_nil rfl) (by decide) (by decide) rfl rfl))) d_snil)
      (d_sone (d_ret (d_if (d_tcmp od_inS (d_ix (d_var (i := 0) rfl (.inl rfl) (by decide) (by decide)) d_int (fun _ _ => rfl)) (d_tup (d_cons d_str (d_cons d_str d_nil rfl) rfl)) rfl) (d_callTy cd_list rfl m_list boot_list (d_cons (d_sl (d_var (i := 0) rfl (.inl rfl) (by decide) (by decide)) (d_part (d_neg d_int)) d_nopart) d_nil rfl) (by decide) (by decide) rfl rfl) (d_lst d_nil))))))) (fun ds O Q E h => ?_) (fun ds O Q E h => h)
  · obtain ⟨z, xs, rfl, _⟩ := h; rfl
  · obtain ⟨z, xs, rfl, hs, q⟩ := h
    rw [show startD N_used [.tup (.str z :: xs)] = [.sh (.tup (.str z :: xs))] from rfl]
    have hv : ∀ Q E, Q (.tup (.str z :: xs)) O → dVar 0 [.sh (.tup (.str z :: xs))] O Q E := fun Q E q => q
    unfold usedL at q
    refine st_if (isOf z gHas) (val_tstB _ (val_hd id gHas hv (fun Q E q => q) (by decide))) ?_
    cases e1 : isOf z gHas with
    | true =>
      rw [if_pos e1] at q
      have hl : 1 < xs.length := by
        have hm := isOf_mem e1
        simp only [gHas, List.mem_cons, List.not_mem_nil, or_false] at hm
        rcases hm with rfl | rfl
        · have := shp_of (n := 3) hs rfl; omega
        · have := shp_of (n := 4) hs rfl; omega
      refine bcT (val_retX ?_)
      exact val_fromT (.str z :: xs) 2 (by decide) (by rw [List.length_cons]; omega) (by simp) (fun Q E q => q) (fun Q E q => q) _ _ q
    | false =>
    rw [if_neg (by rw [e1]; decide)] at q
    refine bcN ?_
    dsimp only
    refine st_if (isOf z gSame) (val_tstB _ (val_hd id gSame hv (fun Q E q => q) (by decide))) ?_
    cases e2 : isOf z gSame with
    | true =>
      rw [if_pos e2] at q
      exact bcT (val_retX (val_sl1 (.str z) xs (fun Q E q => q) _ _ q))
    | false =>
    rw [if_neg (by rw [e2]; decide)] at q
    refine bcN ?_
    dsimp only
    refine val_retX (val_if (isOf z gWay) (val_tstB _ (val_hd id gWay hv (fun Q E q => q) (by decide))) ?_)
    cases e4 : isOf z gWay with
    | true =>
      rw [if_pos e4] at q
      have hl : 4 < xs.length := by
        have hm := isOf_mem e4
        simp only [gWay, List.mem_cons, List.not_mem_nil, or_false] at hm
        rcases hm with rfl | rfl
        · have := shp_of (n := 6) hs rfl; omega
        · have := shp_of (n := 7) hs rfl; omega
      exact bcT (val_last2 (.str z) xs (by omega) hv _ _ q)
    | false =>
      rw [if_neg (by rw [e4]; decide)] at q
      exact bcF (val_lst _ val_nil (le_sz rfl) _ _ q)
theorem ok_is_test {f fM : Addr} {fd fdM : FuncData} (F : Fun K "is_test" "is_test" s_is_test f fd) (G_is_number : FnOk P w K mg base CX0 1 fM fdM ["value", "least", "most"] (spD K numS)) (T_is_number : Gf K mg "is_number" fM fdM ["value", "least", "most"]) (m_isinstance : mg "isinstance" = none) (m_tuple : mg "tuple" = none) (m_len : mg "len" = none) :
    FnOk P w K mg base CX0 2 f fd ["value"] (spD K testS) := by
  refine fn_pure F sc_is_test (fun ds O Q E h => ?_) (fun cdv A outer s H E hr =>
    (d_scons (d_ifS (DPW.pt (d_wor (d_tnot (d_test (d_callB cd_isi rfl m_isinstance boot_isinstance (d_cons (d_var (i := 0) rfl (.inl rfl) (by decide) (by decide)) (d_cons (d_ty rfl m_tuple boot_tuple (by decide) (by decide)) d_nil rfl) rfl) (by decide) (by decide) rfl rfl) (by intro _; rfl))) (d_or1 (d_tcmp od_lt (d_callB cd_len rfl m_len boot_len (d_cons (d_var (i := 0) rfl (.inl rfl) (by decide) (by decide)) d_nil rfl) (by decide) (by decide) rfl rfl) d_int (nomark _))))) (d_sone (d_ret d_bl)) d_snil)
      (d_scons (d_ifS (d_tcmp od_inS (d_ix (d_var (i := 0) rfl (.inl rfl) (by decide) (by decide)) d_int (fun _ _ => rfl)) (d_tup (d_cons d_str (d_cons d_str d_nil rfl) rfl)) rfl) (d_sone (d_ret (d_and (d_cmp (od_eq hr.units) (d_callB cd_len rfl m_len boot_len (d_cons (d_var (i := 0) rfl (.inl rfl) (by decide) (by decide)) d_nil rfl) (by decide) (by decide) rfl rfl) d_int (nomark _)) (d_one (d_call G_is_number (hr.mono (by decide)) rfl T_is_number.m T_is_number.k T_is_number.b (fun _ => pass0A) (d_cons (d_ix (d_var (i := 0) rfl (.inl rfl) (by decide) (by decide)) d_int (fun _ _ => rfl)) (d_cons d_int (d_cons d_int d_nil rfl) rfl) rfl) (by decide) rfl rfl))))) d_snil)
      (d_scons (d_ifS (DPW.pt (d_wor (d_tcmp (od_ne hr.units) (d_ix (d_var (i := 0) rfl (.inl rfl) (by decide) (by decide)) d_int (fun _ _ => rfl)) d_str (nomark _)) (d_wor (d_tcmp (od_ne hr.units) (d_callB cd_len rfl m_len boot_len (d_cons (d_var (i := 0) rfl (.inl rfl) (by decide) (by decide)) d_nil rfl) (by decide) (by decide) rfl rfl) d_int (nomark _)) (d_or1 (d_tnot (d_test (d_call G_is_number (hr.mono (by decide)) rfl T_is_number.m T_is_number.k T_is_number.b (fun _ => pass0A) (d_cons (d_ix (d_var (i := 0) rfl (.inl rfl) (by decide) (by decide)) d_int (fun _ _ => rfl)) (d_cons d_int (d_cons d_int d_nil rfl) rfl) rfl) (by decide) rfl rfl) (by intro _; rfl))))))) (d_sone (d_ret d_bl)) d_snil)
      (d_sone (d_ret (d_call G_is_number (hr.mono (by decide)) rfl T_is_number.m T_is_number.k T_is_number.b (fun _ => pass0A) (d_cons (d_ix (d_var (i := 0) rfl (.inl rfl) (by decide) (by decide)) d_int (fun _ _ => rfl)) (d_cons d_int (d_cons (d_op od_sub (d_ix (d_var (i := 0) rfl (.inl rfl) (by decide) (by decide)) d_int (fun _ _ => rfl)) d_int) d_nil rfl) rfl) rfl) (by decide) rfl rfl))))))) (fun ds O Q E h => ?_) (fun ds O Q E h => h)
  · obtain ⟨v, rfl, _⟩ := h; rfl
  · obtain ⟨v, rfl, ⟨ty, hvv⟩, q⟩ := h
    rw [show startD N_is_test [v] = [.sh v] from rfl]
    cases v with
    | tup xs =>
      obtain ⟨ht, hz⟩ := hvv xs rfl
      have hlen : ∀ Q E, Q (.int xs.length) O → dCB lenO (dCons (dVar 0) dNil) [.sh (.tup xs)] O Q E := val_len (.inr rfl) (fun Q E q => q)
      refine st_if (decide ((xs.length : Int) < 2)) (val_or2 (fun Q E q => ⟨rfl, rfl, q⟩) (val_tstB _ (val_op (.int xs.length) (.int 2) _ hlen (fun Q E q => q) (fun Q q => q)))) ?_
      by_cases h2 : xs.length < 2
      · rw [decide_eq_true (by omega)]
        rw [isTest_short h2] at q
        exact bcT q
      · rw [decide_eq_false (by omega)]
        refine bcN ?_
        dsimp only
        obtain ⟨z, r, rfl⟩ := hz (by omega)
        obtain ⟨x, t, rfl⟩ : ∃ x t, r = x :: t := by
          cases r with
          | nil => simp at h2
          | cons x t => exact ⟨x, t, rfl⟩
        have hv : ∀ Q E, Q (.tup (.str z :: x :: t)) O → dVar 0 [.sh (.tup (.str z :: x :: t))] O Q E := fun Q E q => q
        have tx : (tyD x).isSome = true := ht x (by simp)
        refine st_if (isOf z gLeast) (val_tstB _ (val_hd id gLeast hv (fun Q E q => q) (by decide))) ?_
        have q1 : Q (.bl (if isOf z gLeast then decide (t.length = 0) && isNum x 0 8 else if z = "rest" then (match t with
          | [y] => (match x with
            | .int i => isNum x 2 8 && isNum y 0 (i - 1)
            | _ => false)
          | _ => false) else false)) O := q
        cases e1 : isOf z gLeast with
        | true =>
          rw [if_pos e1] at q1
          refine bcT (val_retX (val_andVq (decide (t.length = 0)) (isNum x 0 8) ?_ (fun _ => ?_) _ _ q1))
          · refine fun Q E q => val_op (.int ((.str z :: x :: t : List D).length)) (.int 2) (.bl (decide (t.length = 0))) hlen (fun Q E q => q) (fun Q q => ?_) Q E q
            show Q (.bl (decide ((((.str z :: x :: t : List D).length : Nat) : Int) = 2)))
            rw [show decide ((((.str z :: x :: t : List D).length : Nat) : Int) = 2) = decide (t.length = 0) from decide_eq_decide.mpr (by simp only [List.length_cons]; omega)]
            exact q
          · exact val_call [x, .int 0, .int 8] _ (val_cons _ _ (val_ix (.inr rfl) hv (fun Q E q => q) ad1) (val_cons _ _ (fun Q E q => q) (val_cons _ _ (fun Q E q => q) val_nil))) fun Q E q => ⟨x, 0, 8, rfl, tx, q⟩
        | false =>
        rw [if_neg (by rw [e1]; decide)] at q1
        refine bcN ?_
        dsimp only
        have h0 : ∀ (f : Bool → Bool) (Q : QD) (E : QX), Q (.bl (f (decide (z = "rest")))) O → dOp (pu (eqD f)) (dOp ixD (dVar 0) (dC (.int 0))) (dC (.str "rest")) [.sh (.tup (.str z :: x :: t))] O Q E := fun f => val_op (.str z) (.str "rest") _ (val_ix (.inr rfl) hv (fun Q E q => q) ad0) (fun Q E q => q) (fun Q q => q)
        have h3 : ∀ (f : Bool → Bool) (Q : QD) (E : QX), Q (.bl (f (decide (t.length = 1)))) O → dOp (pu (eqD f)) (dCB lenO (dCons (dVar 0) dNil)) (dC (.int 3)) [.sh (.tup (.str z :: x :: t))] O Q E := fun f Q E q => hlen _ _ (by
          show Q (.bl (f (decide ((((.str z :: x :: t : List D).length : Nat) : Int) = 3)))) O
          rw [show decide ((((.str z :: x :: t : List D).length : Nat) : Int) = 3) = decide (t.length = 1) from decide_eq_decide.mpr (by simp only [List.length_cons]; omega)]
          exact q)
        by_cases hr : z = "rest"
        · rw [if_pos hr] at q1
          by_cases ht1 : t.length = 1
          · obtain ⟨y, rfl⟩ := List.length_eq_one_iff.mp ht1
            have ty2 : (tyD y).isSome = true := ht y (by simp)
            refine st_if (!isNum x 2 8) (val_or2 (val_tstB false (by have := h0 not; rw [decide_eq_true hr] at this; exact this)) (val_or2 (val_tstB false (by have := h3 not; rw [decide_eq_true ht1] at this; exact this)) (val_not _ (val_tst _ (val_call [x, .int 2, .int 8] _ (val_cons _ _ (val_ix (.inr rfl) hv (fun Q E q => q) ad1) (val_cons _ _ (fun Q E q => q) (val_cons _ _ (fun Q E q => q) val_nil))) fun Q E q => ⟨x, 2, 8, rfl, tx, q⟩))))) ?_
            cases hn : isNum x 2 8 with
            | false =>
              refine bcT ?_
              cases x <;> first | exact q1 | skip
              have q2 : Q (.bl (isNum _ 2 8 && isNum y 0 _)) O := q1
              rw [hn, Bool.false_and] at q2
              exact q2
            | true =>
              cases x <;> first | cases hn | skip
              rename_i i
              have q2 : Q (.bl (isNum (.int i) 2 8 && isNum y 0 (i - 1))) O := q1
              rw [hn, Bool.true_and] at q2
              refine bcN ?_
              dsimp only
              exact val_retX (val_call [y, .int 0, .int (i - 1)] _ (val_cons _ _ (val_ix (.inr rfl) hv (fun Q E q => q) ad2) (val_cons _ _ (fun Q E q => q) (val_cons _ _ (val_op (.int i) (.int 1) _ (val_ix (.inr rfl) hv (fun Q E q => q) ad1) (fun Q E q => q) (fun Q q => ⟨trivial, q⟩)) val_nil))) (fun Q E q => ⟨y, 0, i - 1, rfl, ty2, q⟩) _ _ q2)
          · refine st_if true (val_or2 (val_tstB false (by have := h0 not; rw [decide_eq_true hr] at this; exact this)) (val_or1 (val_tstB true (by have := h3 not; rw [decide_eq_false ht1] at this; exact this)))) (bcT ?_)
            match t, ht1, q1 with
            | [], _, q1 => exact q1
            | _ :: _ :: _, _, q1 => exact q1
        · rw [if_neg hr] at q1
          exact st_if true (val_or1 (val_tstB true (by have := h0 not; rw [decide_eq_false hr] at this; exact this))) (bcT q1)
    | opq => cases ty
    | ins => cases ty
    | exc => cases ty
    | lam => cases ty
    | _ => exact ⟨rfl, rfl, q⟩
end
end LW
set_option Elab.async false
set_option linter.all false
set_option maxRecDepth 100000
set_option maxHeartbeats 4000000
set_option pp.maxSteps 400
/-! is_headed, is_saying -/
namespace LW
open PySem PySem.Spec PyProof.Rows L2 EV PySem.XO PySem.W LamX
local macro_rules | `(tactic| walk_at "n") => `(tactic| refine st_norm (by simp only [List.set_cons_succ, List.set_cons_zero]; rfl) ?_)
abbrev s_is_headed : Stmt := topS 56
abbrev N_is_headed : List Str := ["saying", "names", "fresh", "name"]
theorem sc_is_headed : FnScope N_is_headed ["saying", "names"] (defScope s_is_headed) := ⟨rfl, rfl, rfl, by decide +kernel, rfl, by decide +kernel, by decide +kernel⟩
def inN (ns : List Str) : D → Bool
  | .str y => isOf y ns
  | _ => false
/-- two names that are not one -/
def apart : List D → Bool
  | [a, b] => !(match a, b with
    | .str x, .str y => decide (x = y)
    | _, _ => false)
  | _ => true
def isHdX (z : Str) (xs : List D) (ns : List Str) : Bool :=
  (!isOf z gHas || isNm (xs.getD 0 .non)) && ((!decide (z = "count") || isTest (xs.getD 1 .non)) && ((!decide (z = "within") || isNum (xs.getD 0 .non) 0 8) && (((usedL z xs).all fun d => isNm d && inN ns d) && (((boundL z xs).all fun d => isNm d && !inN ns d) && apart (boundL z xs)))))
def isHd (s : D) (ns : List Str) : Bool := match s with
  | .tup (.str z :: xs) => decide (lenN.lookup z = some ((xs.length : Int) + 1)) && isHdX z xs ns
  | _ => false
/-- what is_headed may look at -/
def HdPre (s : D) : Prop := (tyD s).isSome = true ∧ ∀ xs, s = .tup xs → xs.length ≤ 1000 ∧ (∀ x ∈ xs, Flat x) ∧ ∀ v, xs[2]? = some v → TestOk v
abbrev nmL (ns : List Str) : D := .lst (ns.map D.str)
def hdS : DSp := fun ds O Q _ => ∃ s ns, ds = [s, nmL ns] ∧ HdPre s ∧ ns.length ≤ 1000 ∧ Q (.bl (isHd s ns)) O
abbrev s_is_saying : Stmt := topS 57
abbrev N_is_saying : List Str := ["saying", "names", "deep", "scope", "part"]
theorem sc_is_saying : FnScope N_is_saying ["saying", "names", "deep"] (defScope s_is_saying) := ⟨rfl, rfl, rfl, by decide +kernel, rfl, by decide +kernel, by decide +kernel⟩
def strsOf (ds : List D) : List Str := ds.filterMap fun d => match d with
  | .str y => some y
  | _ => none
theorem strsOf_map : ∀ {ds : List D}, (∀ d ∈ ds, isNm d = true) → ds = (strsOf ds).map D.str
  | [], _ => rfl
  | d :: ds, h => by
    have hd := h d (by simp)
    cases d with
    | str y =>
      show D.str y :: ds = D.str y :: (strsOf ds).map D.str
      rw [← strsOf_map fun x hx => h x (List.mem_cons_of_mem _ hx)]
    | _ => cases hd
theorem hd_shape {s : D} {ns : List Str} (h : isHd s ns = true) : ∃ z xs, s = .tup (.str z :: xs) ∧ Shp z xs ∧ ∀ d ∈ boundL z xs, isNm d = true := by
  unfold isHd at h
  split at h
  · rename_i z xs
    rw [Bool.and_eq_true] at h
    refine ⟨z, xs, rfl, by unfold Shp; exact of_decide_eq_true h.1, fun d hd => ?_⟩
    have h2 := h.2
    unfold isHdX at h2
    simp only [Bool.and_eq_true] at h2
    have := List.all_eq_true.mp h2.2.2.2.2.1 d hd
    rw [Bool.and_eq_true] at this
    exact this.1
  · cases h
theorem inner_len {z : Str} {xs : List D} (hs : Shp z xs) : (innerL z xs).length ≤ 2 := by
  unfold innerL
  split
  · rename_i e
    have hm := isOf_mem e
    simp only [gNot, List.mem_cons, List.not_mem_nil, or_false] at hm
    rcases hm with rfl | rfl | rfl
    · have := shp_of (n := 2) hs rfl; omega
    · have := shp_of (n := 3) hs rfl; omega
    · have := shp_of (n := 3) hs rfl; omega
  · split
    · simp
    · split
      · simp
      · split <;> simp
theorem inner_sub {z : Str} {xs : List D} (hs : Shp z xs) : ∀ d ∈ innerL z xs, d ∈ xs := by
  intro d hd
  have mem : ∀ i, i < xs.length → xs.getD i .non ∈ xs := fun i hi => by rw [getD_el hi]; exact List.getElem_mem hi
  unfold innerL at hd
  split at hd
  · exact hd
  · split at hd
    · rename_i e
      have hm := isOf_mem e
      simp only [gSome, List.mem_cons, List.not_mem_nil, or_false] at hm hd
      subst hd
      rcases hm with rfl | rfl
      · have := shp_of (n := 3) hs rfl; exact mem 1 (by omega)
      · have := shp_of (n := 3) hs rfl; exact mem 1 (by omega)
    · split at hd
      · rename_i e
        have hm := isOf_mem e
        simp only [gCount, List.mem_cons, List.not_mem_nil, or_false] at hm hd
        subst hd
        rcases hm with rfl | rfl
        · have := shp_of (n := 4) hs rfl; exact mem 2 (by omega)
        · have := shp_of (n := 6) hs rfl; exact mem 2 (by omega)
      · split at hd
        · rename_i e
          subst e
          have := shp_of (n := 7) hs rfl
          simp only [List.mem_cons, List.not_mem_nil, or_false] at hd
          subst hd
          exact mem 3 (by omega)
        · cases hd
def partsB (f : D → List Str → Bool) (s : D) (ns : List Str) : Bool := match s with
  | .tup (.str z :: xs) => decide ((ns.length : Int) + (boundL z xs).length ≤ 6) && (innerL z xs).all fun p => f p (ns ++ strsOf (boundL z xs))
  | _ => false
def isSay : Nat → D → List Str → Bool
  | 0, _, _ => false
  | n + 1, s, ns => isHd s ns && partsB (isSay n) s ns
def Sy : Nat → D → Prop
  | 0, _ => True
  | n + 1, s => HdPre s ∧ ∀ xs, s = .tup xs → ∀ x ∈ xs, Sy n x
def sayS (n : Nat) : DSp := fun ds O Q _ => ∃ s ns, ds = [s, nmL ns, .int n] ∧ Sy n s ∧ ns.length ≤ 100 ∧ Q (.bl (isSay n s ns)) O
/-- if ..: return False -/
theorem st_guard {t : DT} {rest : DS} {A : DEnds} {ρ : Slots} {O : Ow} (b c : Bool) (h : ∀ Q E, Q (!b) O → t ρ O Q E) (q : A.rt (.bl (b && c)) O) (k : b = true → A.rt (.bl c) O → rest A ρ O) : dSeq (dIfS t (dRet (dC (.bl false))) dNext) rest A ρ O := h _ _ (by
  cases b with
  | true => exact k rfl q
  | false => exact q)
theorem len_look (z : Str) : lenT.lookup z = (lenN.lookup z).map D.int := by
  have : lenT = lenN.map fun p => (p.1, .int p.2) := rfl
  rw [this]
  induction lenN with
  | nil => rfl
  | cons p l ih =>
    obtain ⟨k, v⟩ := p
    simp only [List.map_cons, List.lookup_cons]
    cases z == k with
    | true => rfl
    | false => exact ih
theorem place_look (z : Str) : (placesT.lookup z).isSome = isOf z gHas := by
  simp only [placesT, gHas, isOf, List.lookup_cons, List.any_cons, List.any_nil, Bool.or_false, List.lookup_nil]
  by_cases h1 : z = "has"
  · subst h1; rfl
  · by_cases h2 : z = "link"
    · subst h2; rfl
    · have e1 : (z == ("has" : Str)) = false := beq_eq_false_iff_ne.mpr h1
      have e2 : (z == ("link" : Str)) = false := beq_eq_false_iff_ne.mpr h2
      simp [e1, e2, h1, h2]
theorem nm_str {d : D} (h : isNm d = true) : ∃ y, d = .str y := by
  cases d <;> first | exact ⟨_, rfl⟩ | cases h
theorem getD_flat {xs : List D} {i : Nat} (h : ∀ x ∈ xs, Flat x) (hi : i < xs.length) : Flat (xs.getD i .non) := by
  rw [getD_el hi]; exact h _ (List.getElem_mem hi)
theorem used_sub {z : Str} {xs : List D} : ∀ d ∈ usedL z xs, d ∈ xs := by
  intro d hd
  unfold usedL at hd
  split at hd
  · exact List.mem_of_mem_drop hd
  · split at hd
    · exact hd
    · split at hd
      · exact List.mem_of_mem_drop hd
      · cases hd
theorem used_le {z : Str} {xs : List D} : (usedL z xs).length ≤ xs.length := by
  unfold usedL
  split
  · rw [List.length_drop]; omega
  · split
    · omega
    · split
      · rw [List.length_drop]; omega
      · simp
theorem bound_len {z : Str} {xs : List D} : (boundL z xs).length ≤ 2 := by
  unfold boundL
  split
  · simp
  · split
    · simp
    · split <;> simp
theorem bound_sub {z : Str} {xs : List D} (hs : Shp z xs) : ∀ d ∈ boundL z xs, d ∈ xs := by
  intro d hd
  have mem : ∀ i, i < xs.length → xs.getD i .non ∈ xs := fun i hi => by rw [getD_el hi]; exact List.getElem_mem hi
  unfold boundL at hd
  split at hd
  · rename_i e
    have hm := isOf_mem e
    simp only [gBound, List.mem_cons, List.not_mem_nil, or_false] at hm hd
    subst hd
    rcases hm with rfl | rfl | rfl
    · have := shp_of (n := 3) hs rfl; exact mem 0 (by omega)
    · have := shp_of (n := 3) hs rfl; exact mem 0 (by omega)
    · have := shp_of (n := 4) hs rfl; exact mem 0 (by omega)
  · split at hd
    · rename_i e
      subst e
      have := shp_of (n := 6) hs rfl
      simp only [List.mem_cons, List.not_mem_nil, or_false] at hd
      rcases hd with rfl | rfl
      · exact mem 0 (by omega)
      · exact mem 1 (by omega)
    · split at hd
      · rename_i e
        subst e
        have := shp_of (n := 7) hs rfl
        simp only [List.mem_cons, List.not_mem_nil, or_false] at hd
        rcases hd with rfl | rfl
        · exact mem 1 (by omega)
        · exact mem 2 (by omega)
      · cases hd
/-- is_name(x) and x in names -/
theorem val_nmIn {ρ : Slots} {O : Ow} {i j : Nat} (f : Bool → Bool) (d : D) (ns : List Str) (hd : Flat d) (hi : ∀ Q E, Q d O → dVar i ρ O Q E) (hj : ∀ Q E, Q (nmL ns) O → dVar j ρ O Q E) : ∀ Q E, Q (.bl (isNm d && f (inN ns d))) O → dAndV (dCall nameS (dCons (dVar i) dNil)) (dOp (pu (inSD f)) (dVar i) (dVar j)) ρ O Q E := by
  refine val_andVq (isNm d) (f (inN ns d)) (val_call [d] _ (val_cons _ _ hi val_nil) fun Q E q => ⟨d, rfl, hd.1, hd.2, q⟩) (fun hn => ?_)
  obtain ⟨y, rfl⟩ := nm_str hn
  intro Q E q
  refine hi _ _ (hj _ _ ?_)
  show (match toSs (ns.map D.str) with
    | some ss => Q (.bl (f (ss.any fun z => decide (y = z)))) O
    | none => False)
  rw [toSs_map (fun x => x)]
  show Q (.bl (f ((ns.map fun x => x).any fun z => decide (y = z)))) O
  rw [List.map_id']
  exact q
section
variable {P : Program} {w : World} {K : PySem.W.Frag} {mg : Str → Option Value} {base : Heap}
theorem ok_is_headed {f fN fM fT fU fB aL aP : Addr} {fd fdN fdM fdT fdU fdB : FuncData} (F : Fun K "is_headed" "is_headed" s_is_headed f fd)
    (G_is_name : FnOk P w K mg base CX0 1 fN fdN ["value"] (spD K nameS)) (T_is_name : Gf K mg "is_name" fN fdN ["value"])
    (G_is_number : FnOk P w K mg base CX0 1 fM fdM ["value", "least", "most"] (spD K numS)) (T_is_number : Gf K mg "is_number" fM fdM ["value", "least", "most"])
    (G_is_test : FnOk P w K mg base CX0 2 fT fdT ["value"] (spD K testS)) (T_is_test : Gf K mg "is_test" fT fdT ["value"])
    (G_used : FnOk P w K mg base CX0 1 fU fdU ["saying"] (spD K (headS usedL))) (T_used : Gf K mg "used" fU fdU ["saying"])
    (G_bound : FnOk P w K mg base CX0 1 fB fdB ["saying"] (spD K (headS boundL))) (T_bound : Gf K mg "bound" fB fdB ["saying"])
    (m_isinstance : mg "isinstance" = none) (m_tuple : mg "tuple" = none) (m_str : mg "str" = none) (m_len : mg "len" = none) (m_all : mg "all" = none)
    (M_LENGTHS : mg "LENGTHS" = some (.ref aL)) (T_LENGTHS : TabK K w aL lenT) (M_PLACES : mg "PLACES" = some (.ref aP)) (T_PLACES : TabK K w aP placesT) :
    FnOk P w K mg base CX0 3 f fd ["saying", "names"] (spD K hdS) := by
  refine fn_pure F sc_is_headed (fun ds O Q E h => ?_) (fun cdv A outer s H E hr =>
    (d_scons (d_ifS (DPW.pt (d_wor (d_tnot (d_test (d_callB cd_isi rfl m_isinstance boot_isinstance (d_cons (d_var (i := 0) rfl (.inl rfl) (by decide) (by decide)) (d_cons (d_ty rfl m_tuple boot_tuple (by decide) (by decide)) d_nil rfl) rfl) (by decide) (by decide) rfl rfl) (by intro _; rfl))) (d_wor (d_tcmp (od_eq hr.units) (d_callB cd_len rfl m_len boot_len (d_cons (d_var (i := 0) rfl (.inl rfl) (by decide) (by decide)) d_nil rfl) (by decide) (by decide) rfl rfl) d_int (nomark _)) (d_or1 (d_tnot (d_test (d_callB cd_isi rfl m_isinstance boot_isinstance (d_cons (d_ix (d_var (i := 0) rfl (.inl rfl) (by decide) (by decide)) d_int (fun _ _ => rfl)) (d_cons (d_ty rfl m_str boot_str (by decide) (by decide)) d_nil rfl) rfl) (by decide) (by decide) rfl rfl) (by intro _; rfl))))))) (d_sone (d_ret d_bl)) d_snil)
      (d_scons (d_ifS (d_tcmp (od_ne hr.units) (d_getK T_LENGTHS (d_gdict rfl M_LENGTHS (by decide)) (d_ix (d_var (i := 0) rfl (.inl rfl) (by decide) (by decide)) d_int (fun _ _ => rfl)) d_int ⟨rfl, rfl, rfl, rfl⟩) (d_callB cd_len rfl m_len boot_len (d_cons (d_var (i := 0) rfl (.inl rfl) (by decide) (by decide)) d_nil rfl) (by decide) (by decide) rfl rfl) (nomark _)) (d_sone (d_ret d_bl)) d_snil)
      (d_scons (d_ifS (DPW.pt (d_wand (d_tcmp (od_inK T_PLACES) (d_ix (d_var (i := 0) rfl (.inl rfl) (by decide) (by decide)) d_int (fun _ _ => rfl)) (d_gdict rfl M_PLACES (by decide)) rfl) (d_and1 (d_tnot (d_test (d_call G_is_name (hr.mono (by decide)) rfl T_is_name.m T_is_name.k T_is_name.b (fun _ => pass0A) (d_cons (d_ix (d_var (i := 0) rfl (.inl rfl) (by decide) (by decide)) d_int (fun _ _ => rfl)) d_nil rfl) (by decide) rfl rfl) (by intro _; rfl)))))) (d_sone (d_ret d_bl)) d_snil)
      (d_scons (d_ifS (DPW.pt (d_wand (d_tcmp (od_eq hr.units) (d_ix (d_var (i := 0) rfl (.inl rfl) (by decide) (by decide)) d_int (fun _ _ => rfl)) d_str (nomark _)) (d_and1 (d_tnot (d_test (d_call G_is_test (hr.mono (by decide)) rfl T_is_test.m T_is_test.k T_is_test.b (fun _ => pass0A) (d_cons (d_ix (d_var (i := 0) rfl (.inl rfl) (by decide) (by decide)) d_int (fun _ _ => rfl)) d_nil rfl) (by decide) rfl rfl) (by intro _; rfl)))))) (d_sone (d_ret d_bl)) d_snil)
      (d_scons (d_ifS (DPW.pt (d_wand (d_tcmp (od_eq hr.units) (d_ix (d_var (i := 0) rfl (.inl rfl) (by decide) (by decide)) d_int (fun _ _ => rfl)) d_str (nomark _)) (d_and1 (d_tnot (d_test (d_call G_is_number (hr.mono (by decide)) rfl T_is_number.m T_is_number.k T_is_number.b (fun _ => pass0A) (d_cons (d_ix (d_var (i := 0) rfl (.inl rfl) (by decide) (by decide)) d_int (fun _ _ => rfl)) (d_cons d_int (d_cons d_int d_nil rfl) rfl) rfl) (by decide) rfl rfl) (by intro _; rfl)))))) (d_sone (d_ret d_bl)) d_snil)
      (d_scons (d_ifS (d_tnot (d_test (d_callB (cd_all rfl) rfl m_all boot_all (d_cons (d_lc rfl sc_is_headed.nd (d_iter (d_call G_used (hr.mono (by decide)) rfl T_used.m T_used.k T_used.b (fun _ => pass0A) (d_cons (d_var (i := 0) rfl (.inl rfl) (by decide) (by decide)) d_nil rfl) (by decide) rfl rfl)) (blkOk_by (own := [("name", 3)]) (N := N_is_headed) (sc := defScope s_is_headed) (by decide +kernel)) (fun _ _ _ _ _ => (dg_name (i := 3) sc_is_headed.nd rfl (.inl rfl) (.inr rfl))) (fun _ _ _ _ _ => d_ifs0) (fun _ _ _ _ _ => (d_and (d_call G_is_name (hr.mono (by decide)) rfl T_is_name.m T_is_name.k T_is_name.b (fun _ => pass0A) (d_cons (d_var (i := 3) rfl (.inl rfl) (by decide) (by decide)) d_nil rfl) (by decide) rfl rfl) (d_one (d_cmp od_inS (d_var (i := 3) rfl (.inl rfl) (by decide) (by decide)) (d_var (i := 1) rfl (.inr (.inl rfl)) (by decide) (by decide)) rfl)))) (by decide +kernel) (fun _ => rfl)) d_nil rfl) (by decide) (by decide) rfl rfl) (by intro _; rfl))) (d_sone (d_ret d_bl)) d_snil)
      (d_scons (d_set (i := 2) sc_is_headed.nd rfl (.inl rfl) (d_call G_bound (hr.mono (by decide)) rfl T_bound.m T_bound.k T_bound.b (fun _ => pass0A) (d_cons (d_var (i := 0) rfl (.inl rfl) (by decide) (by decide)) d_nil rfl) (by decide) rfl rfl) rfl (.inl rfl))
      (d_scons (d_ifS (d_tnot (d_test (d_callB (cd_all rfl) rfl m_all boot_all (d_cons (d_lc rfl sc_is_headed.nd (d_iter (d_var (i := 2) rfl (.inl rfl) (by decide) (by decide))) (blkOk_by (own := [("name", 3)]) (N := N_is_headed) (sc := defScope s_is_headed) (by decide +kernel)) (fun _ _ _ _ _ => (dg_name (i := 3) sc_is_headed.nd rfl (.inl rfl) (.inr rfl))) (fun _ _ _ _ _ => d_ifs0) (fun _ _ _ _ _ => (d_and (d_call G_is_name (hr.mono (by decide)) rfl T_is_name.m T_is_name.k T_is_name.b (fun _ => pass0A) (d_cons (d_var (i := 3) rfl (.inl rfl) (by decide) (by decide)) d_nil rfl) (by decide) rfl rfl) (d_one (d_cmp od_notinS (d_var (i := 3) rfl (.inl rfl) (by decide) (by decide)) (d_var (i := 1) rfl (.inr (.inl rfl)) (by decide) (by decide)) rfl)))) (by decide +kernel) (fun _ => rfl)) d_nil rfl) (by decide) (by decide) rfl rfl) (by intro _; rfl))) (d_sone (d_ret d_bl)) d_snil)
      (d_sone (d_ret (d_or (d_cmp od_lt (d_callB cd_len rfl m_len boot_len (d_cons (d_var (i := 2) rfl (.inl rfl) (by decide) (by decide)) d_nil rfl) (by decide) (by decide) rfl rfl) d_int (nomark _)) (d_one (d_cmp (od_ne hr.units) (d_ix (d_var (i := 2) rfl (.inl rfl) (by decide) (by decide)) d_int (fun _ _ => rfl)) (d_ix (d_var (i := 2) rfl (.inl rfl) (by decide) (by decide)) d_int (fun _ _ => rfl)) (nomark _))))))))))))))) (fun ds O Q E h => ?_) (fun ds O Q E h => h)
  · obtain ⟨s, ns, rfl, _⟩ := h; rfl
  · obtain ⟨s, ns, rfl, hp, hn, q⟩ := h
    rw [show startD N_is_headed [s, nmL ns] = [.sh s, .sh (nmL ns), .un, .un] from rfl]
    obtain ⟨ty, hp⟩ := hp
    cases s with
    | tup xs =>
      obtain ⟨hl, hf, ht⟩ := hp xs rfl
      cases xs with
      | nil => exact ⟨rfl, rfl, q⟩
      | cons a xs =>
        have hlen : ∀ Q E, Q (.int ((a :: xs).length)) O → dCB lenO (dCons (dVar 0) dNil) [.sh (.tup (a :: xs)), .sh (nmL ns), .un, .un] O Q E := val_len (.inr rfl) (fun Q E q => q)
        have fa := hf a (by simp)
        cases a with
        | str z =>
          have hv : ∀ (s2 s3 : Sl) (Q : QD) (E : QX), Q (.tup (.str z :: xs)) O → dVar 0 [.sh (.tup (.str z :: xs)), .sh (nmL ns), s2, s3] O Q E := fun _ _ Q E q => q
          have hx : ∀ x ∈ xs, Flat x := fun x h => hf x (List.mem_cons_of_mem _ h)
          have hlx : xs.length ≤ 1000 := by rw [List.length_cons] at hl; omega
          refine st_if false (val_or2 (fun Q E q => ⟨rfl, rfl, q⟩) (val_or2 (val_tstB false (val_op (.int ((D.str z :: xs).length)) (.int 0) (.bl false) hlen (fun Q E q => q) (fun Q q => ?_))) (val_not true (fun Q E q => ix0 ⟨rfl, rfl, q⟩)))) (bcN ?_)
          · show Q (.bl (decide ((((D.str z :: xs).length : Nat) : Int) = 0)))
            rw [decide_eq_false (by rw [List.length_cons]; omega)]
            exact q
          dsimp only
          refine st_guard (decide (lenN.lookup z = some ((xs.length : Int) + 1))) (isHdX z xs ns) (val_tstB _ (val_op (.int ((lenN.lookup z).getD 0)) (.int ((D.str z :: xs).length)) _ (fun Q E q => ?_) hlen (fun Q q => ?_))) q fun hsh q => ?_
          · refine ⟨rfl, ix0 ⟨z, rfl, ?_⟩⟩
            rw [len_look]
            cases hlk : lenN.lookup z with
            | none => rw [hlk] at q; exact q
            | some n => rw [hlk] at q; exact q
          · show Q (.bl (not (decide ((lenN.lookup z).getD 0 = (((D.str z :: xs).length : Nat) : Int)))))
            rw [show decide ((lenN.lookup z).getD 0 = (((D.str z :: xs).length : Nat) : Int)) = decide (lenN.lookup z = some ((xs.length : Int) + 1)) from decide_eq_decide.mpr ?_]
            · exact q
            · rw [List.length_cons]
              cases hlk : lenN.lookup z with
              | none => simp; omega
              | some n => simp
          have hs : Shp z xs := by unfold Shp; exact of_decide_eq_true hsh
          have q2 : Q (.bl ((!isOf z gHas || isNm (xs.getD 0 .non)) && ((!decide (z = "count") || isTest (xs.getD 1 .non)) && ((!decide (z = "within") || isNum (xs.getD 0 .non) 0 8) && (((usedL z xs).all fun d => isNm d && inN ns d) && (((boundL z xs).all fun d => isNm d && !inN ns d) && apart (boundL z xs))))))) O := q
          clear q
          refine st_guard _ _ (fun Q E q => ?_) q2 fun _ q3 => ?_
          · refine ix0 ⟨rfl, ?_⟩
            show bc (placesT.lookup z).isSome _ _
            rw [place_look]
            cases e : isOf z gHas with
            | false => rw [e] at q; exact q
            | true =>
              rw [e] at q
              have h1 : 0 < xs.length := by
                have hm := isOf_mem e
                simp only [gHas, List.mem_cons, List.not_mem_nil, or_false] at hm
                rcases hm with rfl | rfl
                · have := shp_of (n := 3) hs rfl; omega
                · have := shp_of (n := 4) hs rfl; omega
              have fl := getD_flat hx h1
              exact val_not _ (val_tst _ (val_call [xs.getD 0 .non] _ (val_cons _ _ (val_it 0 rfl (hv _ _) h1) val_nil) fun Q E q => ⟨_, rfl, fl.1, fl.2, q⟩)) _ _ q
          refine st_guard _ _ (fun Q E qq => ?_) q3 fun _ q4 => ?_
          · refine val_tstB _ (val_hdE "count" (hv _ _)) _ _ ?_
            by_cases e : z = "count"
            · rw [decide_eq_true e] at qq ⊢
              subst e
              have := shp_of (n := 4) hs rfl
              have h1 : 1 < xs.length := by omega
              have te : TestOk (xs.getD 1 .non) := ht _ (by rw [getD_el h1, List.getElem?_cons_succ]; exact List.getElem?_eq_getElem h1)
              exact val_not _ (val_tst _ (val_call [xs.getD 1 .non] _ (val_cons _ _ (val_it 1 rfl (hv _ _) h1) val_nil) fun Q E q => ⟨_, rfl, te, q⟩)) _ _ qq
            · rw [decide_eq_false e] at qq ⊢
              exact qq
          refine st_guard _ _ (fun Q E qq => ?_) q4 fun _ q5 => ?_
          · refine val_tstB _ (val_hdE "within" (hv _ _)) _ _ ?_
            by_cases e : z = "within"
            · rw [decide_eq_true e] at qq ⊢
              subst e
              have := shp_of (n := 7) hs rfl
              have h1 : 0 < xs.length := by omega
              have fl := getD_flat hx h1
              exact val_not _ (val_tst _ (val_call [xs.getD 0 .non, .int 0, .int 8] _ (val_cons _ _ (val_it 0 rfl (hv _ _) h1) (fun Q E q => q)) fun Q E q => ⟨_, 0, 8, rfl, fl.1, q⟩)) _ _ qq
            · rw [decide_eq_false e] at qq ⊢
              exact qq
          refine st_guard _ _ (fun Q E qq => ?_) q5 fun _ q6 => ?_
          · refine val_not _ (fun Q E q => ?_) _ _ qq
            refine val_tstB _ (val_all (usedL z xs) (fun d => isNm d && inN ns d) ?_ ?_ ?_) _ _ q
            · have : (usedL z xs).length ≤ xs.length := used_le
              omega
            · exact fun Q E q => val_call [.tup (.str z :: xs)] (.lst (usedL z xs)) (val_cons _ _ (hv .un .un) val_nil) (fun Q E q => ⟨z, xs, rfl, hs, q⟩) _ _ q
            · intro d hd Qy hq
              refine tg_one [.sh (.tup (.str z :: xs)), .sh (nmL ns), .un, .sh d] rfl ?_
              refine val_nmIn (i := 3) (j := 1) id d ns (hx d (used_sub d hd)) ?_ ?_ _ _ hq
              · exact fun Q E q => q
              · exact fun Q E q => q
          refine st_set (.lst (boundL z xs)) (val_call [.tup (.str z :: xs)] _ (val_cons _ _ (hv .un .un) val_nil) fun Q E q => ⟨z, xs, rfl, hs, q⟩) ?_
          intro vb eb
          rw [eb]
          clear eb vb
          walk_at "n"
          have hb2 : (boundL z xs).length ≤ 2 := bound_len
          have hbx : ∀ d ∈ boundL z xs, Flat d := fun d hd => hx d (bound_sub hs d hd)
          generalize boundL z xs = bs at q6 hb2 hbx ⊢
          refine st_guard _ _ (fun Q E qq => ?_) q6 fun hall q7 => ?_
          · refine val_not _ (fun Q E q => ?_) _ _ qq
            refine val_tstB _ (val_all bs (fun d => isNm d && !inN ns d) ?_ ?_ ?_) _ _ q
            · omega
            · exact fun Q E q => q
            · intro d hd Qy hq
              refine tg_one [.sh (.tup (.str z :: xs)), .sh (nmL ns), .sh (.lst bs), .sh d] rfl ?_
              refine val_nmIn (i := 3) (j := 1) not d ns (hbx d hd) ?_ ?_ _ _ hq
              · exact fun Q E q => q
              · exact fun Q E q => q
          have nm : ∀ d ∈ bs, ∃ y, d = .str y := fun d hd => by
            have := List.all_eq_true.mp hall d hd
            rw [Bool.and_eq_true] at this
            exact nm_str this.1
          match bs, hb2, nm, q7 with
          | [], _, _, q7 => exact q7
          | [_], _, _, q7 => exact q7
          | [a, b], _, nm, q7 =>
            obtain ⟨x, rfl⟩ := nm a (by simp)
            obtain ⟨y, rfl⟩ := nm b (by simp)
            exact q7
        | opq => cases fa.1
        | ins => cases fa.1
        | exc => cases fa.1
        | lam => cases fa.1
        | _ => exact ⟨rfl, rfl, ix0 ⟨rfl, rfl, q⟩⟩
    | opq => cases ty
    | ins => cases ty
    | exc => cases ty
    | lam => cases ty
    | _ => exact ⟨rfl, rfl, q⟩
theorem ok_is_saying {f fH fB fI : Addr} {fd fdH fdB fdI : FuncData} (F : Fun K "is_saying" "is_saying" s_is_saying f fd) (T_is_saying : Gf K mg "is_saying" f fd ["saying", "names", "deep"])
    (G_is_headed : FnOk P w K mg base CX0 3 fH fdH ["saying", "names"] (spD K hdS)) (T_is_headed : Gf K mg "is_headed" fH fdH ["saying", "names"])
    (G_bound : FnOk P w K mg base CX0 1 fB fdB ["saying"] (spD K (headS boundL))) (T_bound : Gf K mg "bound" fB fdB ["saying"])
    (G_inner : FnOk P w K mg base CX0 1 fI fdI ["saying"] (spD K (headS innerL))) (T_inner : Gf K mg "inner" fI fdI ["saying"])
    (m_len : mg "len" = none) (m_all : mg "all" = none) {t1 : Tok} (M_MOST_NAMES : mg "MOST_NAMES" = some (.int 6 t1)) :
    ∀ n : Nat, FnOk P w K mg base CX0 (n + 4) f fd ["saying", "names", "deep"] (spD K (sayS n)) := by
  have step : ∀ (k n : Nat) (S : DSp), FnOk P w K mg base CX0 (k + 3) f fd ["saying", "names", "deep"] (spD K S) → (∀ (m : Nat) s ns O Q E, n = m + 1 → Sy m s → ns.length ≤ 100 → Q (.bl (isSay m s ns)) O → S [s, nmL ns, .int m] O Q E) → FnOk P w K mg base CX0 (k + 4) f fd ["saying", "names", "deep"] (spD K (sayS n)) := by
    intro k n S G_is_saying hS
    refine fn_pure F sc_is_saying (fun ds O Q E h => ?_) (fun cdv A outer s H E hr =>
      (d_scons (d_ifS (DPW.pt (d_wor (d_tcmp (od_eq hr.units) (d_var (i := 2) rfl (.inr (.inl rfl)) (by decide) (by decide)) d_int (nomark _)) (d_or1 (d_tnot (d_test (d_call G_is_headed (hr.mono (by omega)) rfl T_is_headed.m T_is_headed.k T_is_headed.b (fun _ => pass0A) (d_cons (d_var (i := 0) rfl (.inl rfl) (by decide) (by decide)) (d_cons (d_var (i := 1) rfl (.inl rfl) (by decide) (by decide)) d_nil rfl) rfl) (by decide) rfl rfl) (by intro _; rfl)))))) (d_sone (d_ret d_bl)) d_snil)
      (d_scons (d_set (i := 3) sc_is_saying.nd rfl (.inr rfl) (d_op od_add (d_var (i := 1) rfl (.inl rfl) (by decide) (by decide)) (d_call G_bound (hr.mono (by omega)) rfl T_bound.m T_bound.k T_bound.b (fun _ => pass0A) (d_cons (d_var (i := 0) rfl (.inl rfl) (by decide) (by decide)) d_nil rfl) (by decide) rfl rfl)) rfl (.inl rfl))
      (d_scons (d_ifS (d_tcmp od_gt (d_callB cd_len rfl m_len boot_len (d_cons (d_var (i := 3) rfl (.inr (.inl rfl)) (by decide) (by decide)) d_nil rfl) (by decide) (by decide) rfl rfl) (d_globI rfl M_MOST_NAMES (by decide)) (nomark _)) (d_sone (d_ret d_bl)) d_snil)
      (d_sone (d_ret (d_callB (cd_all rfl) rfl m_all boot_all (d_cons (d_lc rfl sc_is_saying.nd (d_iter (d_call G_inner (hr.mono (by omega)) rfl T_inner.m T_inner.k T_inner.b (fun _ => pass0A) (d_cons (d_var (i := 0) rfl (.inl rfl) (by decide) (by decide)) d_nil rfl) (by decide) rfl rfl)) (blkOk_by (own := [("part", 4)]) (N := N_is_saying) (sc := defScope s_is_saying) (by decide +kernel)) (fun _ _ _ _ _ => (dg_name (i := 4) sc_is_saying.nd rfl (.inl rfl) (.inr rfl))) (fun _ _ _ _ _ => d_ifs0) (fun _ _ _ _ _ => (d_call G_is_saying (hr.mono (by omega)) rfl T_is_saying.m T_is_saying.k T_is_saying.b (fun _ => pass0A) (d_cons (d_var (i := 4) rfl (.inl rfl) (by decide) (by decide)) (d_cons (d_var (i := 3) rfl (.inr (.inl rfl)) (by decide) (by decide)) (d_cons (d_op od_sub (d_var (i := 2) rfl (.inr (.inl rfl)) (by decide) (by decide)) d_int) d_nil rfl) rfl) rfl) (by decide) rfl rfl)) (by decide +kernel) (fun _ => rfl)) d_nil rfl) (by decide) (by decide) rfl rfl))))))) (fun ds O Q E h => ?_) (fun ds O Q E h => h)
    · obtain ⟨s, ns, rfl, _⟩ := h; rfl
    · obtain ⟨s, ns, rfl, hsy, hn, q⟩ := h
      rw [show startD N_is_saying [s, nmL ns, .int n] = [.sh s, .sh (nmL ns), .sh (.int n), .un, .un] from rfl]
      cases n with
      | zero => exact st_if true (val_or1 (val_tstB true (fun Q E q => q))) (bcT q)
      | succ m =>
        obtain ⟨hp, hsub⟩ := hsy
        have q1 : Q (.bl (isHd s ns && partsB (isSay m) s ns)) O := q
        refine st_guard _ _ (val_or2 (val_tstB false (fun Q E q => ?_)) (val_not _ (val_tst _ (val_call [s, nmL ns] _ (val_cons _ _ (fun Q E q => q) (val_cons _ _ (fun Q E q => q) val_nil)) fun Q E q => ⟨s, ns, rfl, hp, by omega, q⟩)))) q1 fun hh q2 => ?_
        · show Q (.bl (decide (((m + 1 : Nat) : Int) = 0))) O
          rw [decide_eq_false (by omega)]
          exact q
        obtain ⟨z, xs, rfl, hs, hb⟩ := hd_shape hh
        have q3 : Q (.bl (decide ((ns.length : Int) + (boundL z xs).length ≤ 6) && (innerL z xs).all fun p => isSay m p (ns ++ strsOf (boundL z xs)))) O := q2
        have hb2 : (boundL z xs).length ≤ 2 := bound_len
        have ebs : boundL z xs = (strsOf (boundL z xs)).map D.str := strsOf_map hb
        have hbl : (strsOf (boundL z xs)).length = (boundL z xs).length := by
          have := congrArg List.length ebs
          rw [List.length_map] at this
          exact this.symm
        have hin : ∀ p ∈ innerL z xs, p ∈ xs := inner_sub hs
        have hil : (innerL z xs).length ≤ 2 := inner_len hs
        have hv : ∀ (s3 s4 : Sl) (Q : QD) (E : QX), Q (.tup (.str z :: xs)) O → dVar 0 [.sh (.tup (.str z :: xs)), .sh (nmL ns), .sh (.int ((m + 1 : Nat) : Int)), s3, s4] O Q E := fun _ _ Q E q => q
        refine st_set (nmL (ns ++ strsOf (boundL z xs))) (fun Q E q => ?_) ?_
        · refine val_op (nmL ns) (.lst (boundL z xs)) _ (fun Q E q => q) (val_call [.tup (.str z :: xs)] _ (val_cons _ _ (hv .un .un) val_nil) fun Q E q => ⟨z, xs, rfl, hs, q⟩) (fun Q q => ⟨szk (by rw [List.length_map]; omega), q⟩) _ _ ?_
          rw [show (ns.map D.str ++ boundL z xs) = (ns ++ strsOf (boundL z xs)).map D.str by rw [List.map_append, ← ebs]]
          exact q
        intro vs es
        rw [es]
        clear es vs
        walk_at "n"
        refine st_guard _ _ (val_tstB _ (val_op (.int (((ns ++ strsOf (boundL z xs)).map D.str).length)) (.int 6) _ (val_len (.inl rfl) (fun Q E q => q)) (fun Q E q => q) (fun Q q => ?_))) q3 fun hle q4 => ?_
        · show Q (.bl (decide ((6 : Int) < (((ns ++ strsOf (boundL z xs)).map D.str).length : Nat))))
          rw [show decide ((6 : Int) < (((ns ++ strsOf (boundL z xs)).map D.str).length : Nat)) = !decide ((ns.length : Int) + (boundL z xs).length ≤ 6) by
            rw [List.length_map, List.length_append, hbl, ← decide_not]
            exact decide_eq_decide.mpr (by omega)]
          exact q
        refine val_retX (val_all (innerL z xs) (fun p => isSay m p (ns ++ strsOf (boundL z xs))) (by omega) ?_ ?_ _ _ q4)
        · exact fun Q E q => val_call [.tup (.str z :: xs)] (.lst (innerL z xs)) (val_cons _ _ (hv _ .un) val_nil) (fun Q E q => ⟨z, xs, rfl, hs, q⟩) _ _ q
        · intro p hpm Qy hq
          refine tg_one [.sh (.tup (.str z :: xs)), .sh (nmL ns), .sh (.int ((m + 1 : Nat) : Int)), .sh (nmL (ns ++ strsOf (boundL z xs))), .sh p] rfl ?_
          refine val_call [p, nmL (ns ++ strsOf (boundL z xs)), .int m] (.bl (isSay m p (ns ++ strsOf (boundL z xs)))) ?_ ?_ _ _ hq
          · refine val_cons _ _ (fun Q E q => q) (val_cons _ _ (fun Q E q => q) (val_cons _ _ (val_op (.int ((m + 1 : Nat) : Int)) (.int 1) (.int m) (fun Q E q => q) (fun Q E q => q) (fun Q q => ⟨trivial, ?_⟩)) val_nil))
            show Q (.int (((m + 1 : Nat) : Int) - 1))
            rw [show ((m + 1 : Nat) : Int) - 1 = m by omega]
            exact q
          · have hle2 := of_decide_eq_true hle
            exact fun Q E q => hS m p _ O Q E rfl (hsub _ rfl p (List.mem_cons_of_mem _ (hin p hpm))) (by rw [List.length_append]; omega) q
  intro n
  induction n with
  | zero =>
    refine step 0 0 (fun _ _ _ _ => False) ?_ (fun m s ns O Q E e => nomatch e)
    exact ⟨fun vs H Q E ⟨_, _, _, _, _, _, _, h, _⟩ => h.elim, fun A outer s H args us vs Q E _ _ _ _ ⟨_, _, _, _, _, _, _, h, _⟩ => h.elim⟩
  | succ n ih => exact step (n + 1) (n + 1) (sayS n) ih (fun m s ns O Q E e h1 h2 q => by cases e; exact ⟨s, ns, rfl, h1, h2, q⟩)
end
end LW
set_option Elab.async false
set_option linter.all false
set_option maxRecDepth 100000
set_option maxHeartbeats 4000000
set_option pp.maxSteps 400
/-! forms_in, agree -/
namespace LW
open PySem PySem.Spec PyProof.Rows L2 EV PySem.XO PySem.W LamX
local macro_rules | `(tactic| walk_at "n") => `(tactic| refine st_norm (by simp only [List.set_cons_succ, List.set_cons_zero]; rfl) ?_)
/-- [y for x in ds for y in F x] -/
theorem lc2_fm {I : Ow → Prop} {i j : Nat} {mi1 : DI} {t1 : DT} {te : DE} {vs1 : List Nat} {ρ : Slots} {O : Ow} (hI : I O) (F : D → List D) (f : D → D → Option D) {Q : List D → Ow → Prop} : ∀ {ds acc : List D}, (∀ d ∈ ds, ∀ K : IL → Ow → Prop, K (tt1, F d) O → mi1 (ρ.set i (.sh d)) O K fun _ _ => False) →
    (∀ d ∈ ds, ∀ x ∈ F d, ∀ (Qy : QD) (Qs : Ow → Prop), (∀ y, f d x = some y → Qy y O) → (f d x = none → Qs O) → elW (dgName j) t1 te (wipeD (ρ.set i (.sh d)) vs1) x O Qy Qs) →
    acc.length + (ds.map fun d => (F d).length).sum ≤ sizeLine → Q (acc ++ ds.flatMap fun d => (F d).filterMap (f d)) O → lcW2 I (dgName i) dYes mi1 (dgName j) t1 te vs1 ρ ds acc O Q
  | [], acc, _, _, _, q => ⟨hI, by simpa using q⟩
  | d :: ds, acc, h1, h2, hl, q => ⟨hI, h1 d (by simp) _ (lcW_fm (I := tt1) trivial (f d) (h2 d (by simp)) (by
      simp only [List.map_cons, List.sum_cons] at hl
      show acc.length + (F d).length ≤ sizeLine
      omega) (lc2_fm hI F f (fun x hx => h1 x (List.mem_cons_of_mem _ hx)) (fun x hx => h2 x (List.mem_cons_of_mem _ hx)) (by
      simp only [List.map_cons, List.sum_cons] at hl
      have := List.length_filterMap_le (f d) (F d)
      show (acc ++ (F d).filterMap (f d)).length + _ ≤ sizeLine
      rw [List.length_append]
      omega) (by simpa [List.flatMap_cons, List.append_assoc] using q)))⟩
abbrev s_forms_in : Stmt := topS 58
abbrev N_forms_in : List Str := ["saying", "part", "found"]
theorem sc_forms_in : FnScope N_forms_in ["saying"] (defScope s_forms_in) := ⟨rfl, rfl, rfl, by decide +kernel, rfl, by decide +kernel, by decide +kernel⟩
def formsL : Nat → D → List D
  | 0, _ => []
  | n + 1, s => match s with
    | .tup (.str z :: xs) => s :: (innerL z xs).flatMap (formsL n)
    | _ => []
def Frm : Nat → D → Prop
  | 0, _ => False
  | n + 1, s => ∃ z xs, s = .tup (.str z :: xs) ∧ Shp z xs ∧ (isOf z gHas = true → isNm (xs.getD 0 .non) = true) ∧ ∀ p ∈ innerL z xs, Frm n p
theorem frm_of : ∀ {n : Nat} {s : D} {ns : List Str}, isSay n s ns = true → Frm n s
  | 0, _, _, h => by cases h
  | n + 1, s, ns, h => by
    have h : (isHd s ns && partsB (isSay n) s ns) = true := h
    rw [Bool.and_eq_true] at h
    obtain ⟨h1, h2⟩ := h
    obtain ⟨z, xs, rfl, hs, _⟩ := hd_shape h1
    have h3 : (decide ((ns.length : Int) + (boundL z xs).length ≤ 6) && (innerL z xs).all fun p => isSay n p (ns ++ strsOf (boundL z xs))) = true := h2
    rw [Bool.and_eq_true] at h3
    refine ⟨z, xs, rfl, hs, fun e => ?_, fun p hp => frm_of (List.all_eq_true.mp h3.2 p hp)⟩
    have h4 : (decide (lenN.lookup z = some ((xs.length : Int) + 1)) && isHdX z xs ns) = true := h1
    rw [Bool.and_eq_true] at h4
    have h5 := h4.2
    unfold isHdX at h5
    simp only [Bool.and_eq_true] at h5
    have h6 := h5.1
    rw [e] at h6
    exact h6
theorem forms_le : ∀ {n : Nat} {s : D}, Frm n s → (formsL n s).length + 1 ≤ 2 ^ n
  | 0, _, h => h.elim
  | n + 1, s, h => by
    obtain ⟨z, xs, rfl, hs, _, hp⟩ := h
    have hl := inner_len hs
    show (_ :: (innerL z xs).flatMap (formsL n)).length + 1 ≤ 2 ^ (n + 1)
    rw [List.length_cons, List.length_flatMap]
    have hq : ∀ p ∈ innerL z xs, (formsL n p).length + 1 ≤ 2 ^ n := fun p h => forms_le (hp p h)
    have h1 : 1 ≤ 2 ^ n := Nat.one_le_two_pow
    rw [Nat.pow_succ]
    match innerL z xs, hl, hq with
    | [], _, _ => simp; omega
    | [a], _, hq => have := hq a (by simp); simp; omega
    | [a, b], _, hq => have := hq a (by simp); have := hq b (by simp); simp; omega
def formS (n : Nat) : DSp := fun ds O Q _ => ∃ s, ds = [s] ∧ n ≤ 9 ∧ Frm n s ∧ Q (.lst (formsL n s)) O
abbrev s_agree : Stmt := topS 59
abbrev N_agree : List Str := ["saying", "looks", "form", "one", "other"]
theorem sc_agree : FnScope N_agree ["saying"] (defScope s_agree) := ⟨rfl, rfl, rfl, by decide +kernel, rfl, by decide +kernel, by decide +kernel⟩
def lkZ : D → Str
  | .tup (.str z :: _) => z
  | _ => Str.empty
def lkY : D → Str
  | .tup (_ :: .str y :: _) => y
  | _ => Str.empty
def looksL (l : List D) : List D := l.filter fun d => isOf (lkZ d) gHas
def agreeL (l : List D) : Bool := l.all fun a => l.all fun b => !decide (lkY a = lkY b) || decide (lkZ a = lkZ b)
def agreeS (n : Nat) : DSp := fun ds O Q _ => ∃ s, ds = [s] ∧ n ≤ 9 ∧ Frm n s ∧ (formsL n s).length ≤ 30 ∧ Q (.bl (agreeL (looksL (formsL n s)))) O
theorem forms_shape : ∀ {n : Nat} {s : D}, Frm n s → ∀ d ∈ formsL n s, ∃ z xs, d = .tup (.str z :: xs) ∧ (isOf z gHas = true → ∃ y r, xs = .str y :: r)
  | 0, _, h, _, _ => h.elim
  | n + 1, s, h, d, hd => by
    obtain ⟨z, xs, rfl, hs, hh, hp⟩ := h
    have hd : d ∈ (.tup (.str z :: xs) :: (innerL z xs).flatMap (formsL n) : List D) := hd
    rcases List.mem_cons.mp hd with rfl | hd
    · refine ⟨z, xs, rfl, fun e => ?_⟩
      have h1 : 0 < xs.length := by
        have hm := isOf_mem e
        simp only [gHas, List.mem_cons, List.not_mem_nil, or_false] at hm
        rcases hm with rfl | rfl
        · have := shp_of (n := 3) hs rfl; omega
        · have := shp_of (n := 4) hs rfl; omega
      obtain ⟨y, ey⟩ := nm_str (hh e)
      cases xs with
      | nil => simp at h1
      | cons x r =>
        have : x = .str y := ey
        exact ⟨y, r, by rw [this]⟩
    · obtain ⟨p, hpm, hd⟩ := List.mem_flatMap.mp hd
      exact forms_shape (hp p hpm) d hd
theorem fm_filter {p : D → Bool} : ∀ l : List D, (l.filterMap fun d => if p d = true then some d else none) = l.filter p
  | [] => rfl
  | d :: l => by
    rw [List.filterMap_cons, List.filter_cons, fm_filter l]
    cases p d <;> rfl
def agreeX (ks ls : List D) : List Bool := ks.flatMap fun a => ls.filterMap fun b => if lkY a = lkY b then some (decide (lkZ a = lkZ b)) else none
abbrev agreeV (ls : List D) : List Bool := agreeX ls ls
theorem agree_row (a : D) : ∀ ls : List D, (ls.filterMap fun b => if lkY a = lkY b then some (D.bl (decide (lkZ a = lkZ b))) else none) = (ls.filterMap fun b => if lkY a = lkY b then some (decide (lkZ a = lkZ b)) else none).map fun b => D.bl b
  | [] => rfl
  | b :: ls => by
    rw [List.filterMap_cons, List.filterMap_cons, agree_row a ls]
    by_cases e : lkY a = lkY b
    · simp [e]
    · simp [e]
theorem agreeV_map : ∀ ks ls : List D, (ks.flatMap fun a => ls.filterMap fun b => if lkY a = lkY b then some (D.bl (decide (lkZ a = lkZ b))) else none) = (agreeX ks ls).map fun b => D.bl b
  | [], _ => rfl
  | a :: ks, ls => by
    unfold agreeX
    rw [List.flatMap_cons, List.flatMap_cons, List.map_append, agreeV_map ks ls, agree_row]
    rfl
theorem agreeV_all (ls : List D) : (agreeV ls).all id = agreeL ls := by
  rw [Bool.eq_iff_iff, List.all_eq_true]
  unfold agreeL
  simp only [List.all_eq_true, agreeV, agreeX, List.mem_flatMap, List.mem_filterMap]
  constructor
  · intro h a ha b hb
    by_cases e : lkY a = lkY b
    · have := h _ ⟨a, ha, b, hb, if_pos e⟩
      rw [decide_eq_true e]
      exact this
    · rw [decide_eq_false e]; rfl
  · rintro h x ⟨a, ha, b, hb, e⟩
    have := h a ha b hb
    split at e
    · rename_i ey
      cases e
      rw [decide_eq_true ey] at this
      exact this
    · cases e
section
variable {P : Program} {w : World} {K : PySem.W.Frag} {mg : Str → Option Value} {base : Heap}
theorem ok_forms_in {f fI : Addr} {fd fdI : FuncData} (F : Fun K "forms_in" "forms_in" s_forms_in f fd) (T_forms_in : Gf K mg "forms_in" f fd ["saying"])
    (G_inner : FnOk P w K mg base CX0 1 fI fdI ["saying"] (spD K (headS innerL))) (T_inner : Gf K mg "inner" fI fdI ["saying"]) :
    ∀ n : Nat, FnOk P w K mg base CX0 (n + 2) f fd ["saying"] (spD K (formS n)) := by
  have step : ∀ (k n : Nat) (S : DSp), FnOk P w K mg base CX0 (k + 1) f fd ["saying"] (spD K S) → (∀ (m : Nat) s O Q E, n = m + 1 → m ≤ 9 → Frm m s → Q (.lst (formsL m s)) O → S [s] O Q E) → FnOk P w K mg base CX0 (k + 2) f fd ["saying"] (spD K (formS n)) := by
    intro k n S G_forms_in hS
    refine fn_pure F sc_forms_in (fun ds O Q E h => ?_) (fun cdv A outer s H E hr =>
      (d_sone (d_ret (d_op od_add (d_lst (d_cons (d_var (i := 0) rfl (.inl rfl) (by decide) (by decide)) d_nil rfl)) (d_lc2 rfl sc_forms_in.nd (d_iter (d_call G_inner (hr.mono (by omega)) rfl T_inner.m T_inner.k T_inner.b (fun _ => pass0A) (d_cons (d_var (i := 0) rfl (.inl rfl) (by decide) (by decide)) d_nil rfl) (by decide) rfl rfl)) (blkOk_by (own := [("part", 1), ("found", 2)]) (N := N_forms_in) (sc := defScope s_forms_in) (by decide +kernel)) (vs1 := [2]) (by decide) (fun _ _ _ _ _ => (dg_name (i := 1) sc_forms_in.nd rfl (.inl rfl) (.inr rfl))) (fun _ _ _ _ _ => d_ifs0) (fun _ _ _ _ _ => (d_iter (d_call G_forms_in (hr.mono (by omega)) rfl T_forms_in.m T_forms_in.k T_forms_in.b (fun _ => pass0A) (d_cons (d_var (i := 1) rfl (.inl rfl) (by decide) (by decide)) d_nil rfl) (by decide) rfl rfl))) (fun _ _ _ _ _ => (dg_name (i := 2) sc_forms_in.nd rfl (.inl rfl) (.inr rfl))) (fun _ _ _ _ _ => d_ifs0) (fun _ _ _ _ _ => (d_var (i := 2) rfl (.inl rfl) (by decide) (by decide))) (by decide +kernel) (by decide +kernel) (fun _ => rfl) (fun _ _ => rfl)))))) (fun ds O Q E h => ?_) (fun ds O Q E h => h)
    · obtain ⟨s, rfl, _⟩ := h; rfl
    · obtain ⟨s, rfl, hn, hf, q⟩ := h
      rw [show startD N_forms_in [s] = [.sh s, .un, .un] from rfl]
      cases n with
      | zero => exact hf.elim
      | succ m =>
        have hle := forms_le hf
        obtain ⟨z, xs, rfl, hs, _, hp⟩ := hf
        have hpw : 2 ^ (m + 1) ≤ 2 ^ 9 := Nat.pow_le_pow_right (by decide) hn
        have q1 : Q (.lst (.tup (.str z :: xs) :: (innerL z xs).flatMap (formsL m))) O := q
        have hl1 : (.tup (.str z :: xs) :: (innerL z xs).flatMap (formsL m) : List D).length + 1 ≤ 2 ^ (m + 1) := hle
        rw [List.length_cons] at hl1
        have hl2 : ((innerL z xs).map fun d => (formsL m d).length).sum = ((innerL z xs).flatMap (formsL m)).length := by rw [List.length_flatMap]
        refine val_retX (val_op (.lst [.tup (.str z :: xs)]) (.lst ((innerL z xs).flatMap (formsL m))) _ (fun Q E q => ⟨le_sz rfl, q⟩) (fun Q E q => ?_) (fun Q q => ⟨szk ?_, q⟩) _ _ q1)
        · refine val_call [.tup (.str z :: xs)] (.lst (innerL z xs)) (fun Q E q => q) (fun Q E q => ⟨z, xs, rfl, hs, q⟩) _ _ ?_
          refine lc2_fm (I := tt1) trivial (formsL m) (fun _ x => some x) (fun p hpm Kp hk => ?_) (fun p hpm x hx Qy Qs h1 h2 => ?_) ?_ ?_
          · exact val_call [p] (.lst (formsL m p)) (fun Q E q => q) (fun Q E q => hS m p O Q E rfl (by omega) (hp p hpm) q) _ _ hk
          · exact h1 x rfl
          · rw [hl2, List.length_nil]; exact szk (by omega)
          · simp only [List.nil_append, List.filterMap_some]
            exact q
        · show 1 + _ ≤ 1000
          omega
  intro n
  induction n with
  | zero =>
    refine step 0 0 (fun _ _ _ _ => False) ?_ (fun m s O Q E e => nomatch e)
    exact ⟨fun vs H Q E ⟨_, _, _, _, _, _, _, h, _⟩ => h.elim, fun A outer s H args us vs Q E _ _ _ _ ⟨_, _, _, _, _, _, _, h, _⟩ => h.elim⟩
  | succ n ih => exact step (n + 1) (n + 1) (formS n) ih (fun m s O Q E e h0 h1 q => by cases e; exact ⟨s, rfl, h0, h1, q⟩)
theorem ok_agree {f fF aP : Addr} {fd fdF : FuncData} (n : Nat) (F : Fun K "agree" "agree" s_agree f fd) (G_forms_in : FnOk P w K mg base CX0 8 fF fdF ["saying"] (spD K (formS n))) (T_forms_in : Gf K mg "forms_in" fF fdF ["saying"])
    (m_all : mg "all" = none) (M_PLACES : mg "PLACES" = some (.ref aP)) (T_PLACES : TabK K w aP placesT) :
    FnOk P w K mg base CX0 9 f fd ["saying"] (spD K (agreeS n)) := by
  refine fn_pure F sc_agree (fun ds O Q E h => ?_) (fun cdv A outer s H E hr =>
    (d_scons (d_set (i := 1) sc_agree.nd rfl (.inr rfl) (d_lc rfl sc_agree.nd (d_iter (d_call G_forms_in (hr.mono (by decide)) rfl T_forms_in.m T_forms_in.k T_forms_in.b (fun _ => pass0A) (d_cons (d_var (i := 0) rfl (.inl rfl) (by decide) (by decide)) d_nil rfl) (by decide) rfl rfl)) (blkOk_by (own := [("form", 2)]) (N := N_agree) (sc := defScope s_agree) (by decide +kernel)) (fun _ _ _ _ _ => (dg_name (i := 2) sc_agree.nd rfl (.inl rfl) (.inr rfl))) (fun _ _ _ _ _ => (d_ifs1 (d_tcmp (od_inK T_PLACES) (d_ix (d_var (i := 2) rfl (.inl rfl) (by decide) (by decide)) d_int (fun _ _ => rfl)) (d_gdict rfl M_PLACES (by decide)) rfl))) (fun _ _ _ _ _ => (d_var (i := 2) rfl (.inl rfl) (by decide) (by decide))) (by decide +kernel) (fun _ => rfl)) rfl (.inl rfl))
      (d_sone (d_ret (d_callB (cd_all rfl) rfl m_all boot_all (d_cons (d_lc2 rfl sc_agree.nd (d_iter (d_var (i := 1) rfl (.inr (.inl rfl)) (by decide) (by decide))) (blkOk_by (own := [("one", 3), ("other", 4)]) (N := N_agree) (sc := defScope s_agree) (by decide +kernel)) (vs1 := [4]) (by decide) (fun _ _ _ _ _ => (dg_name (i := 3) sc_agree.nd rfl (.inl rfl) (.inr rfl))) (fun _ _ _ _ _ => d_ifs0) (fun _ _ _ _ _ => (d_iter (d_var (i := 1) rfl (.inr (.inl rfl)) (by decide) (by decide)))) (fun _ _ _ _ _ => (dg_name (i := 4) sc_agree.nd rfl (.inl rfl) (.inr rfl))) (fun _ _ _ _ _ => (d_ifs1 (d_tcmp (od_eq hr.units) (d_ix (d_var (i := 3) rfl (.inl rfl) (by decide) (by decide)) d_int (fun _ _ => rfl)) (d_ix (d_var (i := 4) rfl (.inl rfl) (by decide) (by decide)) d_int (fun _ _ => rfl)) (nomark _)))) (fun _ _ _ _ _ => (d_cmp (od_eq hr.units) (d_ix (d_var (i := 3) rfl (.inl rfl) (by decide) (by decide)) d_int (fun _ _ => rfl)) (d_ix (d_var (i := 4) rfl (.inl rfl) (by decide) (by decide)) d_int (fun _ _ => rfl)) (nomark _))) (by decide +kernel) (by decide +kernel) (fun _ => rfl) (fun _ _ => rfl)) d_nil rfl) (by decide) (by decide) rfl rfl))))) (fun ds O Q E h => ?_) (fun ds O Q E h => h)
  · obtain ⟨s, rfl, _⟩ := h; rfl
  · obtain ⟨s, rfl, hn, hf, hle, q⟩ := h
    rw [show startD N_agree [s] = [.sh s, .un, .un, .un, .un] from rfl]
    have hsh := forms_shape hf
    generalize hfs : formsL n s = fs at q hsh hle
    refine st_set (.lst (looksL fs)) (fun Q E q => ?_) ?_
    · refine val_call [s] (.lst fs) (fun Q E q => q) (fun Q E q => ⟨s, rfl, hn, hf, by rw [hfs]; exact q⟩) _ _ ?_
      refine lcW_fm (I := tt1) trivial (fun d => if isOf (lkZ d) gHas = true then some d else none) (fun d hd Qy Qs h1 h2 => ?_) ?_ ?_
      · obtain ⟨z, xs, rfl, _⟩ := hsh d hd
        refine tg_one [.sh s, .un, .sh (.tup (.str z :: xs)), .un, .un] rfl ?_
        refine ix0 ⟨rfl, ?_⟩
        show bc (placesT.lookup z).isSome _ _
        rw [place_look]
        have ez : lkZ (.tup (.str z :: xs)) = z := rfl
        rw [ez] at h1 h2
        cases e : isOf z gHas with
        | true => exact h1 _ (if_pos e)
        | false => exact h2 (if_neg (by rw [e]; decide))
      · show 0 + fs.length ≤ sizeLine
        exact szk (by omega)
      · rw [List.nil_append, fm_filter]
        exact q
    intro vl el
    rw [el]
    clear el vl
    walk_at "n"
    have hlk : ∀ d ∈ looksL fs, ∃ z y r, d = .tup (.str z :: .str y :: r) := fun d hd => by
      obtain ⟨hd, hp⟩ := List.mem_filter.mp hd
      obtain ⟨z, xs, rfl, h⟩ := hsh d hd
      obtain ⟨y, r, rfl⟩ := h hp
      exact ⟨z, y, r, rfl⟩
    have hll : (looksL fs).length ≤ 30 := Nat.le_trans (List.length_filter_le _ _) hle
    generalize looksL fs = ls at q hlk hll ⊢
    refine val_retX ?_
    refine lc2_fm (I := tt1) trivial (fun _ => ls) (fun a b => if lkY a = lkY b then some (.bl (decide (lkZ a = lkZ b))) else none) (fun a ha Kp hk => hk) (fun a ha b hb Qy Qs h1 h2 => ?_) ?_ ?_
    · obtain ⟨z, y, r, rfl⟩ := hlk a ha
      obtain ⟨z', y', r', rfl⟩ := hlk b hb
      have e1 : lkY (.tup (.str z :: .str y :: r)) = y := rfl
      have e2 : lkY (.tup (.str z' :: .str y' :: r')) = y' := rfl
      have e3 : lkZ (.tup (.str z :: .str y :: r)) = z := rfl
      have e4 : lkZ (.tup (.str z' :: .str y' :: r')) = z' := rfl
      rw [e1, e2, e3, e4] at h1
      rw [e1, e2] at h2
      refine tg_one [.sh s, .sh (.lst ls), .un, .sh (.tup (.str z :: .str y :: r)), .sh (.tup (.str z' :: .str y' :: r'))] rfl ?_
      refine val_tstB _ (val_eqB y y' _ (val_ix (rs := .str z :: .str y :: r) (.inr rfl) ?_ ?_ ad1) (val_ix (rs := .str z' :: .str y' :: r') (.inr rfl) ?_ ?_ ad1) rfl) _ _ ?_
      · exact fun Q E q => q
      · exact fun Q E q => q
      · exact fun Q E q => q
      · exact fun Q E q => q
      by_cases e : y = y'
      · rw [decide_eq_true e]
        refine bcT ?_
        refine val_eqB z z' _ (val_ix (rs := .str z :: .str y :: r) (.inr rfl) ?_ ?_ ad0) (val_ix (rs := .str z' :: .str y' :: r') (.inr rfl) ?_ ?_ ad0) rfl _ _ (h1 _ (if_pos e))
        · exact fun Q E q => q
        · exact fun Q E q => q
        · exact fun Q E q => q
        · exact fun Q E q => q
      · rw [decide_eq_false e]
        exact bcF (h2 (if_neg e))
    · show 0 + (ls.map fun _ => ls.length).sum ≤ sizeLine
      have : (ls.map fun _ => ls.length).sum = ls.length * ls.length := by
        rw [List.map_const', List.sum_replicate_nat]
      rw [this]
      have := Nat.mul_le_mul hll hll
      exact szk (by omega)
    · rw [List.nil_append]
      have em : (ls.flatMap fun a => ls.filterMap fun b => if lkY a = lkY b then some (D.bl (decide (lkZ a = lkZ b))) else none) = (agreeV ls).map fun b => D.bl b := agreeV_map ls ls
      show allD [.lst (ls.flatMap fun a => ls.filterMap fun b => if lkY a = lkY b then some (D.bl (decide (lkZ a = lkZ b))) else none)] fun d => Q d O
      rw [em]
      refine allD_of (toBs_map (fun b => b) (agreeV ls)) ?_
      rw [List.map_id', agreeV_all]
      exact q
end
end LW
set_option Elab.async false
set_option linter.all false
set_option maxRecDepth 100000
set_option maxHeartbeats 4000000
set_option pp.maxSteps 400
/-! Question.__init__ -/
namespace LW
open PySem PySem.Spec PyProof.Rows L2 EV PySem.XO PySem.W LamX
local macro_rules | `(tactic| walk_at "n") => `(tactic| refine st_norm (by simp only [List.set_cons_succ, List.set_cons_zero]; rfl) ?_)
abbrev s_Question_init : Stmt := clsS 61 0
abbrev N_Question_init : List Str := ["self", "names", "saying", "name"]
theorem sc_Question_init : FnScope N_Question_init ["self", "names", "saying"] (defScope s_Question_init) := ⟨rfl, rfl, rfl, by decide +kernel, rfl, by decide +kernel, by decide +kernel⟩
def namesX (A : Str → Addr) (d : D) : Xc := (A "InvalidNames", errD "InvalidNames" ["given"] [d])
def sayX (A : Str → Addr) (d : D) : Xc := (A "InvalidSaying", errD "InvalidSaying" ["given"] [d])
def namesBad (xs : List D) : Bool := decide (3 < xs.length) || (!(xs.all isNm) || decide ((met (strsOf xs)).length < xs.length))
def sayBad (s : D) (ns : List Str) : Bool := !isSay 6 s ns || (decide (12 < (formsL 6 s).length) || !agreeL (looksL (formsL 6 s)))
def qnX (A : Str → Addr) (dn s : D) : Option Xc := match dn with
  | .lst xs => if namesBad xs then some (namesX A (.tup xs)) else if sayBad s (strsOf xs) then some (sayX A s) else none
  | .tup xs => if namesBad xs then some (namesX A (.tup xs)) else if sayBad s (strsOf xs) then some (sayX A s) else none
  | d => some (namesX A (.tup [d]))
def qnF (xs : List D) (s : D) : List (Str × D) := [("names", .tup xs), ("saying", s), ("forms", .int (formsL 6 s).length)]
/-- names that may be passed -/
def NmPre (dn : D) : Prop := (tyD dn).isSome = true ∧ ∀ xs, dn = .lst xs ∨ dn = .tup xs → xs.length ≤ 1000 ∧ ∀ x ∈ xs, Flat x
def iniQ (A : Str → Addr) (C : Addr) : DSp := fun ds O Q E => ∃ p dn s, ds = [.opq (.ref p), dn, s] ∧ O p = some (.ins C []) ∧ NmPre dn ∧ (tyD s).isSome = true ∧ Sy 6 s ∧
  (∀ xs, Seq dn xs → qnX A dn s = none → Q .non (oset O p (.ins C (qnF xs s)))) ∧ ∀ x, qnX A dn s = some x → E x O
theorem qnX_seq {A : Str → Addr} {dn s : D} {xs : List D} (h : Seq dn xs) : qnX A dn s = if namesBad xs = true then some (namesX A (.tup xs)) else if sayBad s (strsOf xs) = true then some (sayX A s) else none := by
  rcases h with rfl | rfl <;> rfl
theorem strs_len {xs : List D} (h : xs.all isNm = true) : xs = (strsOf xs).map D.str ∧ (strsOf xs).length = xs.length := by
  have e := strsOf_map fun d hd => List.all_eq_true.mp h d hd
  refine ⟨e, ?_⟩
  have := congrArg List.length e
  rw [List.length_map] at this
  exact this.symm
section
variable {P : Program} {w : World} {K : PySem.W.Frag} {mg : Str → Option Value} {base : Heap}
theorem ok_Question_init {f fN fL fS fF fA C : Addr} {fd fdN fdL fdS fdF fdA : FuncData} {AA : Str → Addr} (F : Fun K "__init__" "Question.__init__" s_Question_init f fd)
    (G_is_name : FnOk P w K mg base CX0 1 fN fdN ["value"] (spD K nameS)) (T_is_name : Gf K mg "is_name" fN fdN ["value"])
    (G_is_listed : FnOk P w K mg base CX0 1 fL fdL ["value"] (spD K listedS)) (T_is_listed : Gf K mg "is_listed" fL fdL ["value"])
    (G_is_saying : FnOk P w K mg base CX0 10 fS fdS ["saying", "names", "deep"] (spD K (sayS 6))) (T_is_saying : Gf K mg "is_saying" fS fdS ["saying", "names", "deep"])
    (G_forms_in : FnOk P w K mg base CX0 8 fF fdF ["saying"] (spD K (formS 6))) (T_forms_in : Gf K mg "forms_in" fF fdF ["saying"])
    (G_agree : FnOk P w K mg base CX0 9 fA fdA ["saying"] (spD K (agreeS 6))) (T_agree : Gf K mg "agree" fA fdA ["saying"])
    (m_len : mg "len" = none) (m_all : mg "all" = none) (m_set : mg "set" = none) (m_tuple : mg "tuple" = none) (m_list : mg "list" = none)
    {t1 t2 t3 : Tok} (M_MOST_INPUTS : mg "MOST_INPUTS" = some (.int 3 t1)) (M_MOST_DEEP : mg "MOST_DEEP" = some (.int 6 t2)) (M_MOST_FORMS : mg "MOST_FORMS" = some (.int 12 t3))
    (E_InvalidNames : Err P w K mg base 2 (AA "InvalidNames") "InvalidNames" ["given"]) (M_InvalidNames : mg "InvalidNames" = some (.ref (AA "InvalidNames")))
    (E_InvalidSaying : Err P w K mg base 2 (AA "InvalidSaying") "InvalidSaying" ["given"]) (M_InvalidSaying : mg "InvalidSaying" = some (.ref (AA "InvalidSaying")))
    (CL_Question : Cls K C) (NA_Question_names : NoAttr K C "names") (NA_Question_saying : NoAttr K C "saying") (NA_Question_forms : NoAttr K C "forms") :
    FnOk P w K mg base (L2.CX P w) 11 f fd ["self", "names", "saying"] (spD K (iniQ AA C)) := by
  refine fn_excF F sc_Question_init (fun ds O Q E h => ?_) (fun cdv A outer s H E hr tk =>
    (d_scons (d_ifS (d_tnot (d_test (d_call G_is_listed (hr.mono (by decide)) rfl T_is_listed.m T_is_listed.k T_is_listed.b (fun _ => pass0A) (d_cons (d_var (i := 1) rfl (.inl rfl) (by decide) (by decide)) d_nil rfl) (by decide) rfl rfl) (by intro _; rfl))) (d_sone (d_raise rfl tk E_InvalidNames (hr.mono (by decide)) rfl M_InvalidNames (d_cons (d_tup (d_cons (d_var (i := 1) rfl (.inl rfl) (by decide) (by decide)) d_nil rfl)) d_nil rfl) (by decide) rfl rfl)) d_snil)
      (d_scons (d_ifS (DPW.pt (d_wor (d_tcmp od_gt (d_callB cd_len rfl m_len boot_len (d_cons (d_var (i := 1) rfl (.inl rfl) (by decide) (by decide)) d_nil rfl) (by decide) (by decide) rfl rfl) (d_globI rfl M_MOST_INPUTS (by decide)) (nomark _)) (d_wor (d_tnot (d_test (d_callB (cd_all rfl) rfl m_all boot_all (d_cons (d_lc rfl sc_Question_init.nd (d_iter (d_var (i := 1) rfl (.inl rfl) (by decide) (by decide))) (blkOk_by (own := [("name", 3)]) (N := N_Question_init) (sc := defScope s_Question_init) (by decide +kernel)) (fun _ _ _ _ _ => (dg_name (i := 3) sc_Question_init.nd rfl (.inl rfl) (.inr rfl))) (fun _ _ _ _ _ => d_ifs0) (fun _ _ _ _ _ => (d_call G_is_name (hr.mono (by decide)) rfl T_is_name.m T_is_name.k T_is_name.b (fun _ => pass0A) (d_cons (d_var (i := 3) rfl (.inl rfl) (by decide) (by decide)) d_nil rfl) (by decide) rfl rfl)) (by decide +kernel) (fun _ => rfl)) d_nil rfl) (by decide) (by decide) rfl rfl) (by intro _; rfl))) (d_or1 (d_tcmp od_lt (d_setS rfl rfl m_len rfl m_set (d_var (i := 1) rfl (.inl rfl) (by decide) (by decide)) rfl) (d_callB cd_len rfl m_len boot_len (d_cons (d_var (i := 1) rfl (.inl rfl) (by decide) (by decide)) d_nil rfl) (by decide) (by decide) rfl rfl) (nomark _)))))) (d_sone (d_raise rfl tk E_InvalidNames (hr.mono (by decide)) rfl M_InvalidNames (d_cons (d_callTy cd_tuple rfl m_tuple boot_tuple (d_cons (d_var (i := 1) rfl (.inl rfl) (by decide) (by decide)) d_nil rfl) (by decide) (by decide) rfl rfl) d_nil rfl) (by decide) rfl rfl)) d_snil)
      (d_scons (d_ifS (d_tnot (d_test (d_call G_is_saying (hr.mono (by decide)) rfl T_is_saying.m T_is_saying.k T_is_saying.b (fun _ => pass0A) (d_cons (d_var (i := 2) rfl (.inl rfl) (by decide) (by decide)) (d_cons (d_callTy cd_list rfl m_list boot_list (d_cons (d_var (i := 1) rfl (.inl rfl) (by decide) (by decide)) d_nil rfl) (by decide) (by decide) rfl rfl) (d_cons (d_globI rfl M_MOST_DEEP (by decide)) d_nil rfl) rfl) rfl) (by decide) rfl rfl) (by intro _; rfl))) (d_sone (d_raise rfl tk E_InvalidSaying (hr.mono (by decide)) rfl M_InvalidSaying (d_cons (d_var (i := 2) rfl (.inl rfl) (by decide) (by decide)) d_nil rfl) (by decide) rfl rfl)) d_snil)
      (d_scons (d_ifS (DPW.pt (d_wor (d_tcmp od_gt (d_callB cd_len rfl m_len boot_len (d_cons (d_call G_forms_in (hr.mono (by decide)) rfl T_forms_in.m T_forms_in.k T_forms_in.b (fun _ => pass0A) (d_cons (d_var (i := 2) rfl (.inl rfl) (by decide) (by decide)) d_nil rfl) (by decide) rfl rfl) d_nil rfl) (by decide) (by decide) rfl rfl) (d_globI rfl M_MOST_FORMS (by decide)) (nomark _)) (d_or1 (d_tnot (d_test (d_call G_agree (hr.mono (by decide)) rfl T_agree.m T_agree.k T_agree.b (fun _ => pass0A) (d_cons (d_var (i := 2) rfl (.inl rfl) (by decide) (by decide)) d_nil rfl) (by decide) rfl rfl) (by intro _; rfl)))))) (d_sone (d_raise rfl tk E_InvalidSaying (hr.mono (by decide)) rfl M_InvalidSaying (d_cons (d_var (i := 2) rfl (.inl rfl) (by decide) (by decide)) d_nil rfl) (by decide) rfl rfl)) d_snil)
      (d_scons (d_setF CL_Question NA_Question_names (d_var (i := 0) rfl (.inl rfl) (by decide) (by decide)) (d_callTy cd_tuple rfl m_tuple boot_tuple (d_cons (d_var (i := 1) rfl (.inl rfl) (by decide) (by decide)) d_nil rfl) (by decide) (by decide) rfl rfl) rfl)
      (d_scons (d_setF CL_Question NA_Question_saying (d_var (i := 0) rfl (.inl rfl) (by decide) (by decide)) (d_var (i := 2) rfl (.inl rfl) (by decide) (by decide)) rfl)
      (d_sone (d_setF CL_Question NA_Question_forms (d_var (i := 0) rfl (.inl rfl) (by decide) (by decide)) (d_callB cd_len rfl m_len boot_len (d_cons (d_call G_forms_in (hr.mono (by decide)) rfl T_forms_in.m T_forms_in.k T_forms_in.b (fun _ => pass0A) (d_cons (d_var (i := 2) rfl (.inl rfl) (by decide) (by decide)) d_nil rfl) (by decide) rfl rfl) d_nil rfl) (by decide) (by decide) rfl rfl) rfl))))))))) (fun ds O Q E h => ?_)
  · obtain ⟨p, dn, s, rfl, _⟩ := h; rfl
  · obtain ⟨p, dn, s, rfl, ho, hnm, ts, hsy, q, qx⟩ := h
    rw [show startD N_Question_init [.opq (.ref p), dn, s] = [.sh (.opq (.ref p)), .sh dn, .sh s, .un] from rfl]
    obtain ⟨tn, hfl⟩ := hnm
    refine st_if (!isLst dn) (val_not _ (val_tst _ (val_call [dn] _ (fun Q E q => q) fun Q E q => ⟨dn, rfl, tn, q⟩))) ?_
    cases hl : isLst dn with
    | false =>
      refine bcT (val_raise [.tup [dn]] rfl (val_cons _ _ (val_tup [dn] (fun Q E q => q) (le_sz rfl)) val_nil) ?_)
      refine frg.of (qx _ ?_)
      cases dn <;> first | rfl | cases hl
    | true =>
    refine bcN ?_
    dsimp only
    obtain ⟨xs, hseq⟩ := isLst_seq hl
    obtain ⟨hlen, hflx⟩ := hfl xs hseq
    have R0 := qnX_seq (A := AA) (s := s) hseq
    have hln : ∀ Q E, Q (.int xs.length) O → dCB lenO (dCons (dVar 1) dNil) [.sh (.opq (.ref p)), .sh dn, .sh s, .un] O Q E := val_len hseq (fun Q E q => q)
    refine st_if (namesBad xs) (val_orT (decide (3 < xs.length)) _ (val_tstB _ (val_op (.int xs.length) (.int 3) _ hln (fun Q E q => q) (fun Q q => ?_))) (fun h3 => val_orT (!xs.all isNm) _ (val_not _ (val_tst _ (val_all xs isNm hlen ?_ ?_))) (fun ha => val_tstB _ (val_op (.int (met (strsOf xs)).length) (.int xs.length) _ ?_ hln (fun Q q => ?_))))) ?_
    · show Q (.bl (decide ((3 : Int) < (xs.length : Nat))))
      rw [show decide ((3 : Int) < (xs.length : Nat)) = decide (3 < xs.length) from decide_eq_decide.mpr (by omega)]
      exact q
    · exact fun Q E q => val_seqI hseq (fun Q E q => q) _ _ q
    · intro d hd Qy hq
      refine tg_one [.sh (.opq (.ref p)), .sh dn, .sh s, .sh d] rfl ?_
      exact val_call [d] _ (fun Q E q => q) (fun Q E q => ⟨d, rfl, (hflx d hd).1, (hflx d hd).2, q⟩) _ _ hq
    · have ha : xs.all isNm = true := by simpa using ha
      obtain ⟨es, el⟩ := strs_len ha
      intro Q E q
      exact ⟨strsOf xs, by rw [← es]; exact hseq, by omega, q⟩
    · show Q (.bl (decide (((met (strsOf xs)).length : Int) < (xs.length : Nat))))
      rw [show decide (((met (strsOf xs)).length : Int) < (xs.length : Nat)) = decide ((met (strsOf xs)).length < xs.length) from decide_eq_decide.mpr (by omega)]
      exact q
    cases hb : namesBad xs with
    | true =>
      rw [if_pos hb] at R0
      exact bcT (val_raise [.tup xs] rfl (val_cons _ _ (val_tupO hseq (fun Q E q => q)) val_nil) (frg.of (qx _ R0)))
    | false =>
    rw [if_neg (by rw [hb]; decide)] at R0
    refine bcN ?_
    dsimp only
    have hb' := hb
    unfold namesBad at hb'
    simp only [Bool.or_eq_false_iff, Bool.not_eq_false'] at hb'
    obtain ⟨h3, ha, hm⟩ := hb'
    obtain ⟨es, el⟩ := strs_len ha
    have h3' : ¬ 3 < xs.length := of_decide_eq_false h3
    refine st_if (!isSay 6 s (strsOf xs)) (val_not _ (val_tst _ (val_call [s, nmL (strsOf xs), .int 6] _ (val_cons _ _ (fun Q E q => q) (val_cons _ _ (fun Q E qq => ?_) (fun Q E q => q))) fun Q E q => ⟨s, strsOf xs, rfl, hsy, by omega, q⟩))) ?_
    · have qq' : Q (.lst xs) O := by rw [es]; exact qq
      rcases hseq with rfl | rfl <;> exact qq'
    have hsb : sayBad s (strsOf xs) = (!isSay 6 s (strsOf xs) || (decide (12 < (formsL 6 s).length) || !agreeL (looksL (formsL 6 s)))) := rfl
    cases hsay : isSay 6 s (strsOf xs) with
    | false =>
      rw [if_pos (by rw [hsb, hsay]; rfl)] at R0
      exact bcT (val_raise [s] rfl (fun Q E q => q) (frg.of (qx _ R0)))
    | true =>
    rw [hsay, Bool.not_true, Bool.false_or] at hsb
    refine bcN ?_
    dsimp only
    have hfr := frm_of hsay
    have hfl6 := forms_le hfr
    have hform : ∀ (ρ : Slots) (O : Ow) (Q : QD) (E : QX), (∀ Q E, Q s O → dVar 2 ρ O Q E) → Q (.int (formsL 6 s).length) O → dCB lenO (dCons (dCall (formS 6) (dCons (dVar 2) dNil)) dNil) ρ O Q E := fun ρ O Q E hv q =>
      val_len (.inl rfl) (val_cons _ _ (val_call [s] _ (val_cons _ _ hv val_nil) fun Q E q => ⟨s, rfl, by decide, hfr, q⟩) val_nil) _ _ q
    refine st_if (sayBad s (strsOf xs)) ?_ ?_
    · rw [hsb]
      refine val_orT _ _ (val_tstB _ (val_op (.int (formsL 6 s).length) (.int 12) _ (fun Q E q => hform _ _ Q E (fun Q E q => q) q) (fun Q E q => q) (fun Q q => ?_))) (fun h12 => val_not _ (val_tst _ (val_call [s] _ (fun Q E q => q) fun Q E q => ⟨s, rfl, by decide, hfr, ?_, q⟩)))
      · show Q (.bl (decide ((12 : Int) < ((formsL 6 s).length : Nat))))
        rw [show decide ((12 : Int) < ((formsL 6 s).length : Nat)) = decide (12 < (formsL 6 s).length) from decide_eq_decide.mpr (by omega)]
        exact q
      · have := of_decide_eq_false h12
        omega
    cases hs2 : sayBad s (strsOf xs) with
    | true =>
      rw [if_pos hs2] at R0
      exact bcT (val_raise [s] rfl (fun Q E q => q) (frg.of (qx _ R0)))
    | false =>
    rw [if_neg (by rw [hs2]; decide)] at R0
    refine bcN ?_
    dsimp only
    refine st_fld p (.tup xs) [] (val_tupO hseq (fun Q E q => q)) (fun Q E q => q) ho (by decide) ?_
    refine st_fld p s [("names", .tup xs)] (fun Q E q => q) (fun Q E q => q) oset_same (Nat.lt_of_lt_of_le (show 1 < 2 by decide) (by decide)) ?_
    rw [oset_oset]
    refine st_fld1 p (.int (formsL 6 s).length) [("names", .tup xs), ("saying", s)] (fun Q E q => hform _ _ Q E (fun Q E q => q) q) (fun Q E q => q) oset_same (Nat.lt_of_lt_of_le (show 2 < 3 by decide) (by decide)) ?_
    rw [oset_oset]
    exact frg.of (q xs hseq R0)
end
end LW
set_option Elab.async false
set_option linter.all false
set_option maxRecDepth 100000
set_option maxHeartbeats 4000000
set_option pp.maxSteps 400
/-! _law_words -/
namespace LW
open PySem PySem.Spec PyProof.Rows L2 EV PySem.XO PySem.W LamX
abbrev s_words : Stmt := topS 72
abbrev N_words : List Str := ["_law_box_here", "_law_many", "_law_letters", "_law_stem", "_law_spot", "_law_first", "_law_k"]
theorem sc_words : FnScope N_words ["_law_box_here", "_law_many"] (defScope s_words) := ⟨rfl, rfl, rfl, by decide +kernel, rfl, by decide +kernel, by decide +kernel⟩
def wordsS : DSp := fun ds O Q _ => ∃ n : Nat, ds = [.int n] ∧ n ≤ 26 ∧ ∀ ws : List Str, ws.length = n → (∀ w ∈ ws, isNm (.str w) = true) → ws.Nodup → Q (.lst (ws.map D.str)) O
local macro_rules | `(tactic| walk_at "n") => `(tactic| refine st_norm (by simp only [List.set_cons_succ, List.set_cons_zero]; rfl) ?_)
def wordD (stem : Str) (spot first : Int) : D → D
  | .int k => .str (cutS stem none (some spot) ++ ⟨#[((co lettersT).getD ((first + 7 * k) % 26).toNat 0)]⟩ ++ cutS stem (some spot) none)
  | _ => .non
def lettN (i : Int) : Nat := (co lettersT).getD (i % 26).toNat 0
theorem lett_at (i : Int) : atI (co lettersT) (i % 26) = some (lettN i) := by
  have h0 : 0 ≤ i % 26 := Int.emod_nonneg _ (by decide)
  have h1 : i % 26 < 26 := Int.emod_lt_of_pos _ (by decide)
  have e : (((i % 26).toNat : Nat) : Int) = i % 26 := by omega
  have hk : (i % 26).toNat < (co lettersT).length := by
    have : (co lettersT).length = 26 := by decide +kernel
    omega
  rw [← e, atI_nat (List.getElem?_eq_getElem hk)]
  unfold lettN
  rw [getD_el hk]
theorem lett_val : ∀ k, k < 26 → (co lettersT).getD k 0 = 97 + k := by decide +kernel
theorem lettN_eq (i : Int) : lettN i = 97 + (i % 26).toNat := lett_val _ (by have := Int.emod_nonneg i (show (26 : Int) ≠ 0 by decide); have := Int.emod_lt_of_pos i (show (0 : Int) < 26 by decide); omega)
theorem lettN_mem (i : Int) : lettN i ∈ co lettersT := by
  have h0 : 0 ≤ i % 26 := Int.emod_nonneg _ (by decide)
  have h1 : i % 26 < 26 := Int.emod_lt_of_pos _ (by decide)
  have hk : (i % 26).toNat < (co lettersT).length := by
    have : (co lettersT).length = 26 := by decide +kernel
    omega
  unfold lettN
  rw [getD_el hk]
  exact List.getElem_mem hk
def wordT (stem : Str) (spot first : Int) (k : Int) : Str := cutS stem none (some spot) ++ ⟨#[lettN (first + 7 * k)]⟩ ++ cutS stem (some spot) none
theorem wordT_co {stem : Str} {spot first k : Int} (h0 : 0 ≤ spot) (h1 : spot ≤ stem.length) : co (wordT stem spot first k) = (co stem).take spot.toNat ++ [lettN (first + 7 * k)] ++ (co stem).drop spot.toNat := by
  unfold wordT
  rw [co_app, co_app, cut_to _ h0 h1, cut_from _ h0 h1]
  rfl
theorem wordT_nm {stem : Str} {spot first k : Int} (h0 : 0 ≤ spot) (h1 : spot ≤ stem.length) (hs : stem.length ≤ 5) (hc : ∀ c ∈ co stem, c ∈ co lettersT) : isNm (.str (wordT stem spot first k)) = true := by
  have e := wordT_co (first := first) (k := k) h0 h1
  have el : (wordT stem spot first k).length = stem.length + 1 := by
    rw [← co_len, e, ← co_len]
    simp only [List.length_append, List.length_take, List.length_drop, List.length_cons, List.length_nil]
    rw [co_len]; omega
  show (decide (1 ≤ (wordT stem spot first k).length) && decide ((wordT stem spot first k).length ≤ 6) && (co (wordT stem spot first k)).all fun c => decide (c ∈ co lettersT)) = true
  rw [el, e]
  simp only [Bool.and_eq_true, decide_eq_true_eq, List.all_eq_true]
  refine ⟨⟨by omega, by omega⟩, fun c h => ?_⟩
  simp only [List.mem_append, List.mem_cons, List.not_mem_nil, or_false] at h
  rcases h with (h | h) | h
  · exact hc c (List.mem_of_mem_take h)
  · rw [h]; exact lettN_mem _
  · exact hc c (List.mem_of_mem_drop h)
theorem wordT_inj {stem : Str} {spot first k k' : Int} (h0 : 0 ≤ spot) (h1 : spot ≤ stem.length) (a0 : 0 ≤ k) (a1 : k < 26) (b0 : 0 ≤ k') (b1 : k' < 26) (h : wordT stem spot first k = wordT stem spot first k') : k = k' := by
  have e := congrArg co h
  rw [wordT_co h0 h1, wordT_co h0 h1, List.append_assoc, List.append_assoc] at e
  have e2 := List.append_cancel_left e
  have e3 : lettN (first + 7 * k) = lettN (first + 7 * k') := by
    have := List.cons.inj e2
    exact this.1
  rw [lettN_eq, lettN_eq] at e3
  omega
theorem each_letters : ∀ {ds ys : List D}, Each (fun _ y => ∃ c ∈ co lettersT, y = .str ⟨#[c]⟩) ds ys → ∃ cs : List Nat, ys = cs.map (fun c => D.str ⟨#[c]⟩) ∧ ∀ c ∈ cs, c ∈ co lettersT
  | _, _, .nil => ⟨[], rfl, fun _ h => by cases h⟩
  | _, _, .cons ⟨c, mc, e⟩ r => by
    obtain ⟨cs, e1, h1⟩ := each_letters r
    refine ⟨c :: cs, by rw [e, e1]; rfl, fun x hx => ?_⟩
    rcases List.mem_cons.mp hx with q | q
    · rw [q]; exact mc
    · exact h1 x q
theorem sum_ones : ∀ cs : List Nat, (cs.map fun _ => 1).sum = cs.length
  | [] => rfl
  | _ :: cs => by simp only [List.map_cons, List.sum_cons, sum_ones cs, List.length_cons]; omega
theorem join_letters {cs : List Nat} (h : cs.length ≤ 1000) {Q : D → Prop} (q : ∀ y : Str, co y = cs → Q (.str y)) : joinD Str.empty (.lst (cs.map fun c => D.str ⟨#[c]⟩)) Q := by
  show joinOn _ _ _
  unfold joinOn
  rw [toSs_map]
  refine ⟨?_, q _ (join_sing cs)⟩
  have e1 : ((cs.map fun c => (⟨#[c]⟩ : Str)).map (·.length)).sum = cs.length := by
    rw [List.map_map]
    exact sum_ones cs
  rw [e1]
  have : (Str.empty).length = 0 := rfl
  rw [this]
  omega
section
variable {P : Program} {w : World} {K : PySem.W.Frag} {mg : Str → Option Value} {base : Heap}
theorem ok_words {f fP fO : Addr} {fd fdP fdO : FuncData} (F : Fun K "_law_words" "_law_words" s_words f fd) (G_pull : FnOk P w K mg base CX0 1 fP fdP ["_law_box_here", "_law_many"] (spB K pullS)) (T_pull : Gf K mg "_law_pull" fP fdP ["_law_box_here", "_law_many"])
    (G_of : FnOk P w K mg base CX0 2 fO fdO ["_law_box_here", "_law_some"] (spB K ofS)) (T_of : Gf K mg "_law_of" fO fdO ["_law_box_here", "_law_some"]) (m_len : mg "len" = none) (m_int : mg "int" = none) (m_range : mg "range" = none) :
    FnOk P w K mg base CX0 3 f fd ["_law_box_here", "_law_many"] (spB K wordsS) := by
  refine fn_box F sc_words (fun ds O Q E h => ?_) (fun cdv A outer s H E b l T hr =>
    (d_scons (d_set (i := 2) sc_words.nd rfl (.inr rfl) d_str rfl (.inl rfl))
      (d_scons (d_set (i := 3) sc_words.nd rfl (.inr rfl) (d_join d_str (d_lc rfl sc_words.nd (d_rng1 rfl m_range (d_cons (d_callX G_of rfl (hr.mono (by decide)) rfl T_of.m T_of.k T_of.b (fun _ => pass0A) (d_cons (d_var (i := 0) rfl (.inr (.inl rfl)) (by decide) (by decide)) (d_cons (d_lst (d_cons d_int (d_cons d_int (d_cons d_int (d_cons d_int (d_cons d_int d_nil rfl) rfl) rfl) rfl) rfl)) d_nil rfl) rfl) (by decide) rfl rfl) d_nil rfl) rfl) (blkOk_by (own := [("_law_k", 6)]) (N := N_words) (sc := defScope s_words) (by decide +kernel)) (fun _ _ _ _ _ => (dg_name (i := 6) sc_words.nd rfl (.inl rfl) (.inr rfl))) (fun _ _ _ _ _ => d_ifs0) (fun _ _ _ _ _ => (d_callX G_of rfl (hr.mono (by decide)) rfl T_of.m T_of.k T_of.b (fun _ => pass0A) (d_cons (d_var (i := 0) rfl (.inr (.inl rfl)) (by decide) (by decide)) (d_cons (d_var (i := 2) rfl (.inr (.inl rfl)) (by decide) (by decide)) d_nil rfl) rfl) (by decide) rfl rfl)) (by decide +kernel) (fun _ => rfl)) rfl rfl rfl) rfl (.inl rfl))
      (d_scons (d_asg (d_tup (d_cons (d_callX G_pull rfl (hr.mono (by decide)) rfl T_pull.m T_pull.k T_pull.b (fun _ => pass0A) (d_cons (d_var (i := 0) rfl (.inr (.inl rfl)) (by decide) (by decide)) (d_cons (d_op od_add (d_callB cd_len rfl m_len boot_len (d_cons (d_var (i := 3) rfl (.inr (.inl rfl)) (by decide) (by decide)) d_nil rfl) (by decide) (by decide) rfl rfl) d_int) d_nil rfl) rfl) (by decide) rfl rfl) (d_cons (d_callX G_pull rfl (hr.mono (by decide)) rfl T_pull.m T_pull.k T_pull.b (fun _ => pass0A) (d_cons (d_var (i := 0) rfl (.inr (.inl rfl)) (by decide) (by decide)) (d_cons d_int d_nil rfl) rfl) (by decide) rfl rfl) d_nil rfl) rfl)) (dg_tup (n := 2) rfl (dgs_cons (dg_name (i := 4) sc_words.nd rfl (.inr rfl) (.inl rfl)) (dgs_cons (dg_name (i := 5) sc_words.nd rfl (.inr rfl) (.inl rfl)) dgs_nil rfl) rfl) rfl rfl) rfl rfl rfl)
      (d_sone (d_ret (d_lc rfl sc_words.nd (d_rng1 rfl m_range (d_cons (d_var (i := 1) rfl (.inl rfl) (by decide) (by decide)) d_nil rfl) rfl) (blkOk_by (own := [("_law_k", 6)]) (N := N_words) (sc := defScope s_words) (by decide +kernel)) (fun _ _ _ _ _ => (dg_name (i := 6) sc_words.nd rfl (.inl rfl) (.inr rfl))) (fun _ _ _ _ _ => d_ifs0) (fun _ _ _ _ _ => (d_op od_add (d_op od_add (d_sl (d_var (i := 3) rfl (.inr (.inl rfl)) (by decide) (by decide)) d_nopart (d_part (d_var (i := 4) rfl (.inr (.inl rfl)) (by decide) (by decide)))) (d_ix (d_var (i := 2) rfl (.inr (.inl rfl)) (by decide) (by decide)) (d_op od_mod (d_callTy cd_int rfl m_int boot_int (d_cons (d_op od_add (d_var (i := 5) rfl (.inr (.inl rfl)) (by decide) (by decide)) (d_op od_mul d_int (d_var (i := 6) rfl (.inl rfl) (by decide) (by decide)))) d_nil rfl) (by decide) (by decide) rfl rfl) d_int) (fun _ _ => rfl))) (d_sl (d_var (i := 3) rfl (.inr (.inl rfl)) (by decide) (by decide)) (d_part (d_var (i := 4) rfl (.inr (.inl rfl)) (by decide) (by decide))) d_nopart))) (by decide +kernel) (fun _ => rfl)))))))) (fun b ds O Q E h => ?_) (fun ds O Q E h => h)
  · obtain ⟨n, rfl, _⟩ := h; rfl
  · obtain ⟨n, rfl, hn, q⟩ := h
    rw [show startD N_words [.opq (.ref b), .int n] = [.sh (.opq (.ref b)), .sh (.int n), .un, .un, .un, .un, .un] from rfl]
    refine st_set (.str lettersT) (fun Q E q => q) ?_
    rintro _ rfl
    walk_at "n"
    refine st_setN (fun d => ∃ y : Str, d = .str y ∧ y.length ≤ 5 ∧ ∀ c ∈ co y, c ∈ co lettersT) (fun Q E q => ?_) ?_
    · refine val_join ?_
      refine val_of (.lst [.int 0, .int 0, .int 1, .int 2, .int 5]) (fun Q E q => q) (fun Q E q => ⟨le_sz rfl, q⟩) (by decide) (by decide) _ _ fun y hy => ?_
      obtain ⟨k, rfl, hk⟩ : ∃ k : Nat, y = .int k ∧ k ≤ 5 := by
        simp only [itemsL, List.mem_cons, List.not_mem_nil, or_false] at hy
        rcases hy with rfl | rfl | rfl | rfl | rfl
        · exact ⟨0, rfl, by decide⟩
        · exact ⟨0, rfl, by decide⟩
        · exact ⟨1, rfl, by decide⟩
        · exact ⟨2, rfl, by decide⟩
        · exact ⟨5, rfl, by decide⟩
      refine ⟨by omega, by omega, ?_⟩
      refine lcW_each trivial (fun _ y => ∃ c ∈ co lettersT, y = .str ⟨#[c]⟩) (fun d hd Qy hq => ?_) (by simp [rngD]; have : 6 ≤ sizeLine := by decide
                                                                                                         omega) (fun ys hE => ?_)
      · refine val_of (.str lettersT) (fun Q E q => q) (fun Q E q => q) (by decide +kernel) (by decide +kernel) _ _ fun y hy => ?_
        obtain ⟨c, hc, rfl⟩ := List.mem_map.mp hy
        exact hq _ ⟨c, hc, rfl⟩
      · obtain ⟨cs, rfl, hcs⟩ := each_letters hE
        have hl := hE.length
        simp [rngD] at hl
        exact join_letters (by omega) fun y ey => q _ ⟨y, rfl, by rw [← co_len, ey]; omega, by rw [ey]; exact hcs⟩
    · rintro _ ⟨stem, rfl, hs5, hsc⟩
      walk_at "n"
      refine st_asg2 (fun u v => ∃ sp fi : Int, u = .int sp ∧ v = .int fi ∧ 0 ≤ sp ∧ sp ≤ stem.length) (fun Q E q => ?_) ?_
      · refine val_pull ((stem.length : Int) + 1) (fun Q E q => q) ?_ (by omega) (by omega) _ _ fun k k0 k1 => ?_
        · exact fun Q E q => ⟨szk (by omega), q⟩
        refine val_pull 26 (fun Q E q => q) (fun Q E q => q) (by decide) (by decide) _ _ fun k2 _ _ => q _ _ ⟨k, k2, rfl, rfl, k0, by omega⟩
      · rintro _ _ ⟨sp, fi, rfl, rfl, sp0, sp1⟩
        walk_at "n"
        have key : ∀ k : Nat, (cutS stem none (some sp)).length + 1 + (cutS stem (some sp) none).length ≤ 6 := fun _ => by
          rw [← co_len, ← co_len, cut_to _ sp0 sp1, cut_from _ sp0 sp1]
          simp only [List.length_take, List.length_drop, co_len]
          omega
        refine val_rng n (by omega) (fun Q E q => q) _ _ ?_
        refine lcW_map (I := tt1) trivial (wordD stem sp fi) (fun d hd Qy hq => ?_) ?_ ?_
        · obtain ⟨k, hk, rfl⟩ : ∃ k : Nat, k < n ∧ d = .int k := by
            obtain ⟨i, hi⟩ := List.getElem?_of_mem hd
            exact ⟨i, rng_at hi⟩
          refine tg_one _ rfl ?_
          refine val_op (.str (cutS stem none (some sp) ++ ⟨#[lettN (fi + 7 * k)]⟩)) (.str (cutS stem (some sp) none)) (.str (wordT stem sp fi k)) (val_op (.str (cutS stem none (some sp))) (.str ⟨#[lettN (fi + 7 * k)]⟩) _ ?_ ?_ ?_) ?_ ?_ _ _ hq
          · exact fun Q E q => ⟨szk (by omega), q⟩
          · intro Q E q
            refine ⟨.inl ⟨by decide, by decide⟩, (show (0 : Int) < 26 by decide), by decide +kernel, ?_⟩
            rw [show atI (lettersT.cps.toList) ((fi + 7 * k) % 26) = some (lettN (fi + 7 * k)) from lett_at _]
            exact q
          · exact fun Q q => ⟨szk (by have := key k; show _ + 1 ≤ 1000; omega), q⟩
          · exact fun Q E q => ⟨szk (by omega), q⟩
          · refine fun Q q => ⟨szk ?_, q⟩
            rw [← co_len, co_app, List.length_append, co_len, co_len]
            have := key k
            show _ + 1 + _ ≤ 1000
            omega
        · simp only [rngD, List.length_map, List.length_range, List.length_nil]; exact szk (by omega)
        · refine cast (congrArg (fun z => Q (.lst z) O) ?_) (q ((List.range n).map fun k : Nat => wordT stem sp fi k) (by simp) ?_ ?_)
          · simp only [rngD, List.nil_append, List.map_map]
            refine List.map_congr_left fun k _ => ?_
            simp only [Function.comp, Int.zero_add]; rfl
          · intro w hw
            obtain ⟨k, _, rfl⟩ := List.mem_map.mp hw
            exact wordT_nm sp0 sp1 hs5 hsc
          · rw [List.Nodup, List.pairwise_map]
            refine List.Pairwise.imp_of_mem ?_ List.nodup_range
            intro a b ha hb hne h
            refine hne ?_
            have := List.mem_range.mp ha
            have := List.mem_range.mp hb
            have := wordT_inj sp0 sp1 (Int.natCast_nonneg a) (by omega) (Int.natCast_nonneg b) (by omega) h
            omega
end
end LW
set_option Elab.async false
set_option linter.all false
set_option maxRecDepth 100000
set_option maxHeartbeats 4000000
set_option pp.maxSteps 400
/-! plain facts on questions -/
namespace LW
open PySem PySem.Spec PyProof.Rows L2 EV PySem.XO PySem.W LamX
abbrev psQ : List Str := ["self", "names", "saying"]
theorem GD_Question_ : ∀ (K : PySem.W.Frag) (G : Hp) (v : V) (vs zs : List V) (ds es : List D), RpL K G vs ds → RpL K G zs es → vs.length = 2 → zs.length = ([] : List Str).length → ∃ ws, (v :: vs) = v :: ws ∧ RpL K G ws ds := fun K G v vs zs ds es r1 r2 _ _ => ⟨vs, rfl, r1⟩
theorem met_nodup : ∀ (xs l : List Str), (∀ x ∈ xs, x ∉ l) → xs.Nodup → (xs.foldl metI l).length = l.length + xs.length
  | [], l, _, _ => by simp
  | x :: xs, l, h, hn => by
    have hx : ¬ (l.any (· == x)) = true := fun q => by
      obtain ⟨y, hy, e⟩ := List.any_eq_true.mp q
      have : y = x := by simpa using e
      subst this
      exact h y (by simp) hy
    have e : metI l x = l ++ [x] := by unfold metI; rw [if_neg hx]
    obtain ⟨h1, h2⟩ := List.nodup_cons.mp hn
    rw [List.foldl_cons, e, met_nodup xs (l ++ [x]) (fun y hy hm => ?_) h2, List.length_append]
    · simp only [List.length_cons, List.length_nil]; omega
    · rcases List.mem_append.mp hm with hm | hm
      · exact h y (List.mem_cons_of_mem _ hy) hm
      · simp only [List.mem_cons, List.not_mem_nil, or_false] at hm
        subst hm
        exact h1 hy
theorem met_all {xs : List Str} (h : xs.Nodup) : (met xs).length = xs.length := by
  have := met_nodup xs [] (fun _ _ h => by cases h) h
  rw [List.length_nil, Nat.zero_add] at this
  exact this
theorem strsOf_strs (ns : List Str) : strsOf (ns.map D.str) = ns := by
  induction ns with
  | nil => rfl
  | cons x ns ih =>
    show x :: strsOf (ns.map D.str) = x :: ns
    rw [ih]
theorem names_good {ns : List Str} (h : ns.Nodup) (hl : ns.length ≤ 3) (hn : ∀ y ∈ ns, isNm (.str y) = true) : namesBad (ns.map D.str) = false := by
  unfold namesBad
  rw [strsOf_strs, List.length_map, decide_eq_false (by omega), decide_eq_false (by rw [met_all h]; omega), Bool.or_false, Bool.false_or]
  have : (ns.map D.str).all isNm = true := List.all_eq_true.mpr fun d hd => by
    obtain ⟨y, hy, rfl⟩ := List.mem_map.mp hd
    exact hn y hy
  rw [this]; rfl
/-! ### what is_saying may look at -/
theorem sy_atom {d : D} (h : (tyD d).isSome = true) (hn : ∀ xs, d ≠ .tup xs) : ∀ n, Sy n d
  | 0 => trivial
  | n + 1 => ⟨⟨h, fun xs e => absurd e (hn xs)⟩, fun xs e => absurd e (hn xs)⟩
theorem sy_tup {n : Nat} {xs : List D} (hl : xs.length ≤ 1000) (hf : ∀ x ∈ xs, Flat x) (ht : ∀ v, xs[2]? = some v → TestOk v) (hs : ∀ x ∈ xs, Sy n x) : Sy (n + 1) (.tup xs) :=
  ⟨⟨rfl, fun ys e => by cases e; exact ⟨hl, hf, ht⟩⟩, fun ys e => by cases e; exact hs⟩
theorem testOk_str {y : Str} : TestOk (.str y) := ⟨rfl, fun xs e => by cases e⟩
theorem mkG_qn {AA : Str → Addr} {C : Addr} {O : Ow} {Q : QD} {E : QX} {dn s : D} (hn : NmPre dn) (ts : (tyD s).isSome = true) (hs : Sy 6 s) (q : ∀ xs, Seq dn xs → qnX AA dn s = none → Q (.ins C (qnF xs s)) O) (e : ∀ x, qnX AA dn s = some x → E x O) : mkG C (iniQ AA C) [dn, s] O Q E := fun p np =>
  spM.of ⟨p, dn, s, rfl, oset_same, hn, ts, hs, fun xs h1 h2 => ⟨rfl, _, _, oset_same, by rw [oset_oset, odel_oset np]; exact q xs h1 h2⟩, fun x h => ⟨O, OSub.new np, e x h⟩⟩
theorem nmPre_l {xs : List D} (hl : xs.length ≤ 1000) (hf : ∀ x ∈ xs, Flat x) : NmPre (.lst xs) := ⟨rfl, fun ys h => by
  rcases h with h | h <;> cases h
  exact ⟨hl, hf⟩⟩
theorem nmPre_t {xs : List D} (hl : xs.length ≤ 1000) (hf : ∀ x ∈ xs, Flat x) : NmPre (.tup xs) := ⟨rfl, fun ys h => by
  rcases h with h | h <;> cases h
  exact ⟨hl, hf⟩⟩
end LW
set_option Elab.async false
set_option linter.all false
set_option maxRecDepth 100000
set_option maxHeartbeats 4000000
set_option pp.maxSteps 400
/-! Question.denied, &, | -/
namespace LW
open PySem PySem.Spec PyProof.Rows L2 EV PySem.XO PySem.W LamX
local macro_rules | `(tactic| walk_at "n") => `(tactic| refine st_norm (by simp only [List.set_cons_succ, List.set_cons_zero]; rfl) ?_)
theorem nm_ok {y : Str} (h : isNm (.str y) = true) : PyData.strOk y = true := by
  simp only [isNm, Bool.and_eq_true, decide_eq_true_eq, List.all_eq_true] at h
  have hc : ∀ c ∈ co lettersT, c < 128 := by decide +kernel
  unfold PyData.strOk
  rw [← Array.all_toList, List.all_eq_true]
  intro c hm
  have := hc c (h.2 c hm)
  simp only [decide_eq_true_eq]
  omega
theorem toPs_strs : ∀ ns : List Str, toPs (ns.map D.str) = some (ns.map PyData.str)
  | [] => rfl
  | x :: ns => by
    rw [List.map_cons, toPs, toPs_strs ns]
    rfl
theorem shp_str : ∀ {ns : List Str}, (∀ y ∈ ns, isNm (.str y) = true) → PyData.canLayAll0 (ns.map PyData.str) = true ∧ PyData.depthAll (ns.map PyData.str) ≤ 1
  | [], _ => by simp [PyData.canLayAll0, PyData.depthAll]
  | x :: ns, h => by
    have ih := shp_str (ns := ns) fun y hy => h y (List.mem_cons_of_mem _ hy)
    simp [PyData.canLayAll0, PyData.depthAll, PyData.canLay0, PyData.depth, nm_ok (h x (by simp)), ih]
end LW
set_option Elab.async false
set_option linter.all false
set_option maxRecDepth 100000
set_option maxHeartbeats 4000000
set_option pp.maxSteps 400
/-! sayings as a type -/
namespace LW
open PySem PySem.Spec PyProof.Rows L2 EV PySem.XO PySem.W LamX
inductive Tst where
  | least (k : Nat) | most (k : Nat) | rest (m r : Nat)
  deriving DecidableEq
inductive Say (α : Type) where
  | has (t a : α) | link (t a b : α) | same (a b : α) | less (a b : α)
  | not (s : Say α) | and (s t : Say α) | or (s t : Say α)
  | some (x : α) (s : Say α) | all (x : α) (s : Say α) | count (x : α) (k : Tst) (s : Say α)
  | way (x y : α) (s : Say α) (a b : α) | within (m : Nat) (x y : α) (s : Say α) (a b : α)
  deriving DecidableEq
def Tst.d : Tst → D
  | .least k => .tup [.str "least", .int k]
  | .most k => .tup [.str "most", .int k]
  | .rest m r => .tup [.str "rest", .int m, .int r]
def Tst.ok : Tst → Bool
  | .least k => decide (k ≤ 8)
  | .most k => decide (k ≤ 8)
  | .rest m r => decide (2 ≤ m) && (decide (m ≤ 8) && decide (r < m))
def Say.d : Say Str → D
  | .has t a => .tup [.str "has", .str t, .str a]
  | .link t a b => .tup [.str "link", .str t, .str a, .str b]
  | .same a b => .tup [.str "same", .str a, .str b]
  | .less a b => .tup [.str "less", .str a, .str b]
  | .not s => .tup [.str "not", s.d]
  | .and s t => .tup [.str "and", s.d, t.d]
  | .or s t => .tup [.str "or", s.d, t.d]
  | .some x s => .tup [.str "some", .str x, s.d]
  | .all x s => .tup [.str "all", .str x, s.d]
  | .count x k s => .tup [.str "count", .str x, k.d, s.d]
  | .way x y s a b => .tup [.str "way", .str x, .str y, s.d, .str a, .str b]
  | .within m x y s a b => .tup [.str "within", .int m, .str x, .str y, s.d, .str a, .str b]
namespace Say
variable {α β : Type}
def map (f : α → β) : Say α → Say β
  | .has t a => .has (f t) (f a)
  | .link t a b => .link (f t) (f a) (f b)
  | .same a b => .same (f a) (f b)
  | .less a b => .less (f a) (f b)
  | .not s => .not (s.map f)
  | .and s t => .and (s.map f) (t.map f)
  | .or s t => .or (s.map f) (t.map f)
  | .some x s => .some (f x) (s.map f)
  | .all x s => .all (f x) (s.map f)
  | .count x k s => .count (f x) k (s.map f)
  | .way x y s a b => .way (f x) (f y) (s.map f) (f a) (f b)
  | .within m x y s a b => .within m (f x) (f y) (s.map f) (f a) (f b)
/-- the names that occur -/
def nms : Say α → List α
  | .has t a => [t, a]
  | .link t a b => [t, a, b]
  | .same a b => [a, b]
  | .less a b => [a, b]
  | .not s => s.nms
  | .and s t => s.nms ++ t.nms
  | .or s t => s.nms ++ t.nms
  | .some x s => x :: s.nms
  | .all x s => x :: s.nms
  | .count x _ s => x :: s.nms
  | .way x y s a b => x :: y :: a :: b :: s.nms
  | .within _ x y s a b => x :: y :: a :: b :: s.nms
def kids : Say α → List (Say α)
  | .not s => [s]
  | .and s t => [s, t]
  | .or s t => [s, t]
  | .some _ s => [s]
  | .all _ s => [s]
  | .count _ _ s => [s]
  | .way _ _ s _ _ => [s]
  | .within _ _ _ s _ _ => [s]
  | _ => []
def deep : Say α → Nat
  | .not s => s.deep + 1
  | .and s t => Nat.max s.deep t.deep + 1
  | .or s t => Nat.max s.deep t.deep + 1
  | .some _ s => s.deep + 1
  | .all _ s => s.deep + 1
  | .count _ _ s => s.deep + 1
  | .way _ _ s _ _ => s.deep + 1
  | .within _ _ _ s _ _ => s.deep + 1
  | _ => 1
def forms : Say α → List (Say α)
  | .not s => .not s :: s.forms
  | .and s t => .and s t :: (s.forms ++ t.forms)
  | .or s t => .or s t :: (s.forms ++ t.forms)
  | .some x s => .some x s :: s.forms
  | .all x s => .all x s :: s.forms
  | .count x k s => .count x k s :: s.forms
  | .way x y s a b => .way x y s a b :: s.forms
  | .within m x y s a b => .within m x y s a b :: s.forms
  | s => [s]
/-- the tables with their places -/
def tabs : Say α → List (α × Nat)
  | .has t _ => [(t, 1)]
  | .link t _ _ => [(t, 2)]
  | .not s => s.tabs
  | .and s t => s.tabs ++ t.tabs
  | .or s t => s.tabs ++ t.tabs
  | .some _ s => s.tabs
  | .all _ s => s.tabs
  | .count _ _ s => s.tabs
  | .way _ _ s _ _ => s.tabs
  | .within _ _ _ s _ _ => s.tabs
  | _ => []
def agreeB [DecidableEq α] (l : List (α × Nat)) : Bool := l.all fun a => l.all fun b => !decide (a.1 = b.1) || decide (a.2 = b.2)
/-- a saying with names in scope -/
def ok [DecidableEq α] : List α → Say α → Bool
  | ns, .has _ a => decide (ns.length ≤ 6) && decide (a ∈ ns)
  | ns, .link _ a b => decide (ns.length ≤ 6) && (decide (a ∈ ns) && decide (b ∈ ns))
  | ns, .same a b => decide (ns.length ≤ 6) && (decide (a ∈ ns) && decide (b ∈ ns))
  | ns, .less a b => decide (ns.length ≤ 6) && (decide (a ∈ ns) && decide (b ∈ ns))
  | ns, .not s => decide (ns.length ≤ 6) && s.ok ns
  | ns, .and s t => decide (ns.length ≤ 6) && (s.ok ns && t.ok ns)
  | ns, .or s t => decide (ns.length ≤ 6) && (s.ok ns && t.ok ns)
  | ns, .some x s => (!decide (x ∈ ns)) && (decide (ns.length + 1 ≤ 6) && s.ok (ns ++ [x]))
  | ns, .all x s => (!decide (x ∈ ns)) && (decide (ns.length + 1 ≤ 6) && s.ok (ns ++ [x]))
  | ns, .count x k s => (k.ok && !decide (x ∈ ns)) && (decide (ns.length + 1 ≤ 6) && s.ok (ns ++ [x]))
  | ns, .way x y s a b => ((decide (a ∈ ns) && decide (b ∈ ns)) && ((!decide (x ∈ ns) && !decide (y ∈ ns)) && !decide (x = y))) && (decide (ns.length + 2 ≤ 6) && s.ok (ns ++ [x, y]))
  | ns, .within m x y s a b => (decide (m ≤ 8) && ((decide (a ∈ ns) && decide (b ∈ ns)) && ((!decide (x ∈ ns) && !decide (y ∈ ns)) && !decide (x = y)))) && (decide (ns.length + 2 ≤ 6) && s.ok (ns ++ [x, y]))
/-- a saying of a question with these names -/
def good [DecidableEq α] (ns : List α) (s : Say α) : Bool := (decide (s.deep ≤ 6) && s.ok ns) && (decide (s.forms.length ≤ 12) && agreeB s.tabs)
theorem deep_pos : ∀ s : Say α, 1 ≤ s.deep := fun s => by cases s <;> simp [deep]
end Say
end LW
set_option Elab.async false
set_option linter.all false
set_option maxRecDepth 100000
set_option maxHeartbeats 4000000
set_option pp.maxSteps 400
/-! sayings: what the program's functions tell of them -/
namespace LW
open PySem PySem.Spec PyProof.Rows L2 EV PySem.XO PySem.W LamX
abbrev Nmd (ns : List Str) : Prop := ∀ y ∈ ns, isNm (.str y) = true
def headOf : Say Str → Str × List D
  | .has t a => ("has", [.str t, .str a])
  | .link t a b => ("link", [.str t, .str a, .str b])
  | .same a b => ("same", [.str a, .str b])
  | .less a b => ("less", [.str a, .str b])
  | .not s => ("not", [s.d])
  | .and s t => ("and", [s.d, t.d])
  | .or s t => ("or", [s.d, t.d])
  | .some x s => ("some", [.str x, s.d])
  | .all x s => ("all", [.str x, s.d])
  | .count x k s => ("count", [.str x, k.d, s.d])
  | .way x y s a b => ("way", [.str x, .str y, s.d, .str a, .str b])
  | .within m x y s a b => ("within", [.int m, .str x, .str y, s.d, .str a, .str b])
theorem d_head (s : Say Str) : s.d = .tup (.str (headOf s).1 :: (headOf s).2) := by cases s <;> rfl
theorem d_len (s : Say Str) : (headOf s).2.length ≤ 6 := by cases s <;> simp [headOf]
theorem inN_str {ns : List Str} {y : Str} : inN ns (.str y) = decide (y ∈ ns) := by
  show isOf y ns = _
  unfold isOf
  rw [Bool.eq_iff_iff, List.any_eq_true, decide_eq_true_eq]
  constructor
  · rintro ⟨z, hz, e⟩
    have := of_decide_eq_true e
    rw [this]; exact hz
  · exact fun h => ⟨y, h, decide_eq_true rfl⟩
theorem tst_ok (k : Tst) : isTest k.d = k.ok := by
  cases k with
  | least k =>
    show (decide ((0 : Nat) = 0) && (decide ((0 : Int) ≤ (k : Nat)) && decide (((k : Nat) : Int) ≤ 8))) = decide (k ≤ 8)
    rw [decide_eq_true (show (0 : Nat) = 0 from rfl), decide_eq_true (show (0 : Int) ≤ (k : Nat) by omega), Bool.true_and, Bool.true_and]
    exact decide_eq_decide.mpr (by omega)
  | most k =>
    show (decide ((0 : Nat) = 0) && (decide ((0 : Int) ≤ (k : Nat)) && decide (((k : Nat) : Int) ≤ 8))) = decide (k ≤ 8)
    rw [decide_eq_true (show (0 : Nat) = 0 from rfl), decide_eq_true (show (0 : Int) ≤ (k : Nat) by omega), Bool.true_and, Bool.true_and]
    exact decide_eq_decide.mpr (by omega)
  | rest m r =>
    show ((decide ((2 : Int) ≤ (m : Nat)) && decide (((m : Nat) : Int) ≤ 8)) && (decide ((0 : Int) ≤ (r : Nat)) && decide (((r : Nat) : Int) ≤ (m : Nat) - 1))) = (decide (2 ≤ m) && (decide (m ≤ 8) && decide (r < m)))
    rw [decide_eq_true (show (0 : Int) ≤ (r : Nat) by omega), Bool.true_and, Bool.and_assoc]
    congr 1
    · exact decide_eq_decide.mpr (by omega)
    · congr 1
      · exact decide_eq_decide.mpr (by omega)
      · exact decide_eq_decide.mpr (by omega)
theorem num08 (m : Nat) : isNum (.int m) 0 8 = decide (m ≤ 8) := by
  show (decide ((0 : Int) ≤ (m : Nat)) && decide (((m : Nat) : Int) ≤ 8)) = _
  rw [decide_eq_true (show (0 : Int) ≤ (m : Nat) by omega), Bool.true_and]
  exact decide_eq_decide.mpr (by omega)
theorem n6 (n : Nat) : decide ((n : Int) + (0 : Nat) ≤ 6) = decide (n ≤ 6) := decide_eq_decide.mpr (by omega)
theorem dle1 (s n : Nat) : decide (s + 1 ≤ n + 1) = decide (s ≤ n) := decide_eq_decide.mpr (by omega)
theorem dmx (s t n : Nat) : decide (Nat.max s t + 1 ≤ n + 1) = (decide (s ≤ n) && decide (t ≤ n)) := by
  rw [Bool.eq_iff_iff, Bool.and_eq_true, decide_eq_true_eq, decide_eq_true_eq, decide_eq_true_eq]
  show Max.max s t + 1 ≤ n + 1 ↔ _
  omega
/-- one step of is_saying, by the head -/
def le6 (n : Nat) : Bool := decide (n ≤ 6)
theorem le6_eq (n : Nat) : decide (n ≤ 6) = le6 n := rfl
theorem say_step (n : Nat) (z : Str) (xs : List D) (ns : List Str) : isSay (n + 1) (.tup (.str z :: xs)) ns = ((decide (lenN.lookup z = some ((xs.length : Int) + 1)) && isHdX z xs ns) && (le6 (ns.length + (boundL z xs).length) && (innerL z xs).all fun p => isSay n p (ns ++ strsOf (boundL z xs)))) := by
  show (_ && (decide ((ns.length : Int) + (boundL z xs).length ≤ 6) && _)) = _
  rw [show decide ((ns.length : Int) + (boundL z xs).length ≤ 6) = le6 (ns.length + (boundL z xs).length) from decide_eq_decide.mpr (by omega)]
  rfl
theorem so0 : strsOf [] = [] := rfl
theorem so1 (x : Str) : strsOf [.str x] = [x] := rfl
theorem so2 (x y : Str) : strsOf [.str x, .str y] = [x, y] := rfl
theorem d1 (n : Nat) : decide (1 ≤ n + 1) = true := decide_eq_true (by omega)
theorem fu_has (t : Str) (a : Str) : usedL "has" [.str t, .str a] = [.str a] := rfl
theorem fb_has (t : Str) (a : Str) : boundL "has" [.str t, .str a] = [] := rfl
theorem fi_has (t : Str) (a : Str) : innerL "has" [.str t, .str a] = [] := rfl
theorem fl_has : lenN.lookup ("has" : Str) = some 3 := rfl
theorem fh_has : isOf "has" gHas = true := rfl
theorem fc_has : decide (("has" : Str) = "count") = false := rfl
theorem fw_has : decide (("has" : Str) = "within") = false := rfl
theorem fu_link (t : Str) (a : Str) (b : Str) : usedL "link" [.str t, .str a, .str b] = [.str a, .str b] := rfl
theorem fb_link (t : Str) (a : Str) (b : Str) : boundL "link" [.str t, .str a, .str b] = [] := rfl
theorem fi_link (t : Str) (a : Str) (b : Str) : innerL "link" [.str t, .str a, .str b] = [] := rfl
theorem fl_link : lenN.lookup ("link" : Str) = some 4 := rfl
theorem fh_link : isOf "link" gHas = true := rfl
theorem fc_link : decide (("link" : Str) = "count") = false := rfl
theorem fw_link : decide (("link" : Str) = "within") = false := rfl
theorem fu_same (a : Str) (b : Str) : usedL "same" [.str a, .str b] = [.str a, .str b] := rfl
theorem fb_same (a : Str) (b : Str) : boundL "same" [.str a, .str b] = [] := rfl
theorem fi_same (a : Str) (b : Str) : innerL "same" [.str a, .str b] = [] := rfl
theorem fl_same : lenN.lookup ("same" : Str) = some 3 := rfl
theorem fh_same : isOf "same" gHas = false := rfl
theorem fc_same : decide (("same" : Str) = "count") = false := rfl
theorem fw_same : decide (("same" : Str) = "within") = false := rfl
theorem fu_less (a : Str) (b : Str) : usedL "less" [.str a, .str b] = [.str a, .str b] := rfl
theorem fb_less (a : Str) (b : Str) : boundL "less" [.str a, .str b] = [] := rfl
theorem fi_less (a : Str) (b : Str) : innerL "less" [.str a, .str b] = [] := rfl
theorem fl_less : lenN.lookup ("less" : Str) = some 3 := rfl
theorem fh_less : isOf "less" gHas = false := rfl
theorem fc_less : decide (("less" : Str) = "count") = false := rfl
theorem fw_less : decide (("less" : Str) = "within") = false := rfl
theorem fu_not (s : D) : usedL "not" [s] = [] := rfl
theorem fb_not (s : D) : boundL "not" [s] = [] := rfl
theorem fi_not (s : D) : innerL "not" [s] = [s] := rfl
theorem fl_not : lenN.lookup ("not" : Str) = some 2 := rfl
theorem fh_not : isOf "not" gHas = false := rfl
theorem fc_not : decide (("not" : Str) = "count") = false := rfl
theorem fw_not : decide (("not" : Str) = "within") = false := rfl
theorem fu_and (s : D) (t : D) : usedL "and" [s, t] = [] := rfl
theorem fb_and (s : D) (t : D) : boundL "and" [s, t] = [] := rfl
theorem fi_and (s : D) (t : D) : innerL "and" [s, t] = [s, t] := rfl
theorem fl_and : lenN.lookup ("and" : Str) = some 3 := rfl
theorem fh_and : isOf "and" gHas = false := rfl
theorem fc_and : decide (("and" : Str) = "count") = false := rfl
theorem fw_and : decide (("and" : Str) = "within") = false := rfl
theorem fu_or (s : D) (t : D) : usedL "or" [s, t] = [] := rfl
theorem fb_or (s : D) (t : D) : boundL "or" [s, t] = [] := rfl
theorem fi_or (s : D) (t : D) : innerL "or" [s, t] = [s, t] := rfl
theorem fl_or : lenN.lookup ("or" : Str) = some 3 := rfl
theorem fh_or : isOf "or" gHas = false := rfl
theorem fc_or : decide (("or" : Str) = "count") = false := rfl
theorem fw_or : decide (("or" : Str) = "within") = false := rfl
theorem fu_some (x : Str) (s : D) : usedL "some" [.str x, s] = [] := rfl
theorem fb_some (x : Str) (s : D) : boundL "some" [.str x, s] = [.str x] := rfl
theorem fi_some (x : Str) (s : D) : innerL "some" [.str x, s] = [s] := rfl
theorem fl_some : lenN.lookup ("some" : Str) = some 3 := rfl
theorem fh_some : isOf "some" gHas = false := rfl
theorem fc_some : decide (("some" : Str) = "count") = false := rfl
theorem fw_some : decide (("some" : Str) = "within") = false := rfl
theorem fu_all (x : Str) (s : D) : usedL "all" [.str x, s] = [] := rfl
theorem fb_all (x : Str) (s : D) : boundL "all" [.str x, s] = [.str x] := rfl
theorem fi_all (x : Str) (s : D) : innerL "all" [.str x, s] = [s] := rfl
theorem fl_all : lenN.lookup ("all" : Str) = some 3 := rfl
theorem fh_all : isOf "all" gHas = false := rfl
theorem fc_all : decide (("all" : Str) = "count") = false := rfl
theorem fw_all : decide (("all" : Str) = "within") = false := rfl
theorem fu_count (x : Str) (k : D) (s : D) : usedL "count" [.str x, k, s] = [] := rfl
theorem fb_count (x : Str) (k : D) (s : D) : boundL "count" [.str x, k, s] = [.str x] := rfl
theorem fi_count (x : Str) (k : D) (s : D) : innerL "count" [.str x, k, s] = [s] := rfl
theorem fl_count : lenN.lookup ("count" : Str) = some 4 := rfl
theorem fh_count : isOf "count" gHas = false := rfl
theorem fc_count : decide (("count" : Str) = "count") = true := rfl
theorem fw_count : decide (("count" : Str) = "within") = false := rfl
theorem fu_way (x : Str) (y : Str) (s : D) (a : Str) (b : Str) : usedL "way" [.str x, .str y, s, .str a, .str b] = [.str a, .str b] := rfl
theorem fb_way (x : Str) (y : Str) (s : D) (a : Str) (b : Str) : boundL "way" [.str x, .str y, s, .str a, .str b] = [.str x, .str y] := rfl
theorem fi_way (x : Str) (y : Str) (s : D) (a : Str) (b : Str) : innerL "way" [.str x, .str y, s, .str a, .str b] = [s] := rfl
theorem fl_way : lenN.lookup ("way" : Str) = some 6 := rfl
theorem fh_way : isOf "way" gHas = false := rfl
theorem fc_way : decide (("way" : Str) = "count") = false := rfl
theorem fw_way : decide (("way" : Str) = "within") = false := rfl
theorem fu_within (m : Int) (x : Str) (y : Str) (s : D) (a : Str) (b : Str) : usedL "within" [.int m, .str x, .str y, s, .str a, .str b] = [.str a, .str b] := rfl
theorem fb_within (m : Int) (x : Str) (y : Str) (s : D) (a : Str) (b : Str) : boundL "within" [.int m, .str x, .str y, s, .str a, .str b] = [.str x, .str y] := rfl
theorem fi_within (m : Int) (x : Str) (y : Str) (s : D) (a : Str) (b : Str) : innerL "within" [.int m, .str x, .str y, s, .str a, .str b] = [s] := rfl
theorem fl_within : lenN.lookup ("within" : Str) = some 7 := rfl
theorem fh_within : isOf "within" gHas = false := rfl
theorem fc_within : decide (("within" : Str) = "count") = false := rfl
theorem fw_within : decide (("within" : Str) = "within") = true := rfl
theorem say_ok : ∀ (s : Say Str) (n : Nat) (ns : List Str), Nmd s.nms → isSay n s.d ns = (decide (s.deep ≤ n) && s.ok ns) := by
  intro s
  induction s with
  | has t a =>
    intro n ns hn
    rw [d_head]
    cases n with
    | zero => rfl
    | succ n =>
      rw [say_step]
      simp only [headOf]
      have ht : isNm (.str t) = true := hn t (by simp [Say.nms])
      have ha : isNm (.str a) = true := hn a (by simp [Say.nms])
      simp only [isHdX, fu_has, fb_has, fi_has, fl_has, fh_has, fc_has, fw_has, fu_link, fb_link, fi_link, fl_link, fh_link, fc_link, fw_link, fu_same, fb_same, fi_same, fl_same, fh_same, fc_same, fw_same, fu_less, fb_less, fi_less, fl_less, fh_less, fc_less, fw_less, fu_not, fb_not, fi_not, fl_not, fh_not, fc_not, fw_not, fu_and, fb_and, fi_and, fl_and, fh_and, fc_and, fw_and, fu_or, fb_or, fi_or, fl_or, fh_or, fc_or, fw_or, fu_some, fb_some, fi_some, fl_some, fh_some, fc_some, fw_some, fu_all, fb_all, fi_all, fl_all, fh_all, fc_all, fw_all, fu_count, fb_count, fi_count, fl_count, fh_count, fc_count, fw_count, fu_way, fb_way, fi_way, fl_way, fh_way, fc_way, fw_way, fu_within, fb_within, fi_within, fl_within, fh_within, fc_within, fw_within, List.all_cons, List.all_nil, Bool.and_true, Bool.true_and, Bool.not_true, Bool.not_false, Bool.false_or, Bool.true_or, Bool.or_true, List.getD_cons_zero, List.getD_cons_succ, apart, List.length_cons, List.length_nil, Nat.zero_add, decide_true, ht, ha, inN_str]
      rw [show decide ((some 3 : Option Int) = some (((1 + 1 : Nat) : Int) + 1)) = true from rfl]
      have hd : decide ((Say.has t a).deep ≤ n + 1) = true := d1 n
      simp only [hd, Say.ok, le6_eq, so0, so1, so2, List.append_nil, Nat.add_zero, tst_ok, num08, Bool.true_and]
      first | done | rfl | ac_rfl
  | link t a b =>
    intro n ns hn
    rw [d_head]
    cases n with
    | zero => rfl
    | succ n =>
      rw [say_step]
      simp only [headOf]
      have ht : isNm (.str t) = true := hn t (by simp [Say.nms])
      have ha : isNm (.str a) = true := hn a (by simp [Say.nms])
      have hb : isNm (.str b) = true := hn b (by simp [Say.nms])
      simp only [isHdX, fu_has, fb_has, fi_has, fl_has, fh_has, fc_has, fw_has, fu_link, fb_link, fi_link, fl_link, fh_link, fc_link, fw_link, fu_same, fb_same, fi_same, fl_same, fh_same, fc_same, fw_same, fu_less, fb_less, fi_less, fl_less, fh_less, fc_less, fw_less, fu_not, fb_not, fi_not, fl_not, fh_not, fc_not, fw_not, fu_and, fb_and, fi_and, fl_and, fh_and, fc_and, fw_and, fu_or, fb_or, fi_or, fl_or, fh_or, fc_or, fw_or, fu_some, fb_some, fi_some, fl_some, fh_some, fc_some, fw_some, fu_all, fb_all, fi_all, fl_all, fh_all, fc_all, fw_all, fu_count, fb_count, fi_count, fl_count, fh_count, fc_count, fw_count, fu_way, fb_way, fi_way, fl_way, fh_way, fc_way, fw_way, fu_within, fb_within, fi_within, fl_within, fh_within, fc_within, fw_within, List.all_cons, List.all_nil, Bool.and_true, Bool.true_and, Bool.not_true, Bool.not_false, Bool.false_or, Bool.true_or, Bool.or_true, List.getD_cons_zero, List.getD_cons_succ, apart, List.length_cons, List.length_nil, Nat.zero_add, decide_true, ht, ha, hb, inN_str]
      rw [show decide ((some 4 : Option Int) = some (((1 + 1 + 1 : Nat) : Int) + 1)) = true from rfl]
      have hd : decide ((Say.link t a b).deep ≤ n + 1) = true := d1 n
      simp only [hd, Say.ok, le6_eq, so0, so1, so2, List.append_nil, Nat.add_zero, tst_ok, num08, Bool.true_and]
      first | done | rfl | ac_rfl
  | same a b =>
    intro n ns hn
    rw [d_head]
    cases n with
    | zero => rfl
    | succ n =>
      rw [say_step]
      simp only [headOf]
      have ha : isNm (.str a) = true := hn a (by simp [Say.nms])
      have hb : isNm (.str b) = true := hn b (by simp [Say.nms])
      simp only [isHdX, fu_has, fb_has, fi_has, fl_has, fh_has, fc_has, fw_has, fu_link, fb_link, fi_link, fl_link, fh_link, fc_link, fw_link, fu_same, fb_same, fi_same, fl_same, fh_same, fc_same, fw_same, fu_less, fb_less, fi_less, fl_less, fh_less, fc_less, fw_less, fu_not, fb_not, fi_not, fl_not, fh_not, fc_not, fw_not, fu_and, fb_and, fi_and, fl_and, fh_and, fc_and, fw_and, fu_or, fb_or, fi_or, fl_or, fh_or, fc_or, fw_or, fu_some, fb_some, fi_some, fl_some, fh_some, fc_some, fw_some, fu_all, fb_all, fi_all, fl_all, fh_all, fc_all, fw_all, fu_count, fb_count, fi_count, fl_count, fh_count, fc_count, fw_count, fu_way, fb_way, fi_way, fl_way, fh_way, fc_way, fw_way, fu_within, fb_within, fi_within, fl_within, fh_within, fc_within, fw_within, List.all_cons, List.all_nil, Bool.and_true, Bool.true_and, Bool.not_true, Bool.not_false, Bool.false_or, Bool.true_or, Bool.or_true, List.getD_cons_zero, List.getD_cons_succ, apart, List.length_cons, List.length_nil, Nat.zero_add, decide_true, ha, hb, inN_str]
      rw [show decide ((some 3 : Option Int) = some (((1 + 1 : Nat) : Int) + 1)) = true from rfl]
      have hd : decide ((Say.same a b).deep ≤ n + 1) = true := d1 n
      simp only [hd, Say.ok, le6_eq, so0, so1, so2, List.append_nil, Nat.add_zero, tst_ok, num08, Bool.true_and]
      first | done | rfl | ac_rfl
  | less a b =>
    intro n ns hn
    rw [d_head]
    cases n with
    | zero => rfl
    | succ n =>
      rw [say_step]
      simp only [headOf]
      have ha : isNm (.str a) = true := hn a (by simp [Say.nms])
      have hb : isNm (.str b) = true := hn b (by simp [Say.nms])
      simp only [isHdX, fu_has, fb_has, fi_has, fl_has, fh_has, fc_has, fw_has, fu_link, fb_link, fi_link, fl_link, fh_link, fc_link, fw_link, fu_same, fb_same, fi_same, fl_same, fh_same, fc_same, fw_same, fu_less, fb_less, fi_less, fl_less, fh_less, fc_less, fw_less, fu_not, fb_not, fi_not, fl_not, fh_not, fc_not, fw_not, fu_and, fb_and, fi_and, fl_and, fh_and, fc_and, fw_and, fu_or, fb_or, fi_or, fl_or, fh_or, fc_or, fw_or, fu_some, fb_some, fi_some, fl_some, fh_some, fc_some, fw_some, fu_all, fb_all, fi_all, fl_all, fh_all, fc_all, fw_all, fu_count, fb_count, fi_count, fl_count, fh_count, fc_count, fw_count, fu_way, fb_way, fi_way, fl_way, fh_way, fc_way, fw_way, fu_within, fb_within, fi_within, fl_within, fh_within, fc_within, fw_within, List.all_cons, List.all_nil, Bool.and_true, Bool.true_and, Bool.not_true, Bool.not_false, Bool.false_or, Bool.true_or, Bool.or_true, List.getD_cons_zero, List.getD_cons_succ, apart, List.length_cons, List.length_nil, Nat.zero_add, decide_true, ha, hb, inN_str]
      rw [show decide ((some 3 : Option Int) = some (((1 + 1 : Nat) : Int) + 1)) = true from rfl]
      have hd : decide ((Say.less a b).deep ≤ n + 1) = true := d1 n
      simp only [hd, Say.ok, le6_eq, so0, so1, so2, List.append_nil, Nat.add_zero, tst_ok, num08, Bool.true_and]
      first | done | rfl | ac_rfl
  | not s ihs =>
    intro n ns hn
    rw [d_head]
    cases n with
    | zero => rfl
    | succ n =>
      rw [say_step]
      simp only [headOf]
      simp only [isHdX, fu_has, fb_has, fi_has, fl_has, fh_has, fc_has, fw_has, fu_link, fb_link, fi_link, fl_link, fh_link, fc_link, fw_link, fu_same, fb_same, fi_same, fl_same, fh_same, fc_same, fw_same, fu_less, fb_less, fi_less, fl_less, fh_less, fc_less, fw_less, fu_not, fb_not, fi_not, fl_not, fh_not, fc_not, fw_not, fu_and, fb_and, fi_and, fl_and, fh_and, fc_and, fw_and, fu_or, fb_or, fi_or, fl_or, fh_or, fc_or, fw_or, fu_some, fb_some, fi_some, fl_some, fh_some, fc_some, fw_some, fu_all, fb_all, fi_all, fl_all, fh_all, fc_all, fw_all, fu_count, fb_count, fi_count, fl_count, fh_count, fc_count, fw_count, fu_way, fb_way, fi_way, fl_way, fh_way, fc_way, fw_way, fu_within, fb_within, fi_within, fl_within, fh_within, fc_within, fw_within, List.all_cons, List.all_nil, Bool.and_true, Bool.true_and, Bool.not_true, Bool.not_false, Bool.false_or, Bool.true_or, Bool.or_true, List.getD_cons_zero, List.getD_cons_succ, apart, List.length_cons, List.length_nil, Nat.zero_add, decide_true, inN_str]
      rw [show decide ((some 2 : Option Int) = some (((1 : Nat) : Int) + 1)) = true from rfl]
      have es : ∀ ns', isSay n s.d ns' = (decide (s.deep ≤ n) && s.ok ns') := fun ns' => ihs n ns' fun y hy => hn y (by simp [Say.nms, hy])
      have hd : decide ((Say.not s).deep ≤ n + 1) = decide (s.deep ≤ n) := dle1 _ _
      simp only [hd, Say.ok, le6_eq, so0, so1, so2, List.append_nil, Nat.add_zero, tst_ok, num08, Bool.true_and, es]
      first | done | rfl | ac_rfl
  | and s t ihs iht =>
    intro n ns hn
    rw [d_head]
    cases n with
    | zero => rfl
    | succ n =>
      rw [say_step]
      simp only [headOf]
      simp only [isHdX, fu_has, fb_has, fi_has, fl_has, fh_has, fc_has, fw_has, fu_link, fb_link, fi_link, fl_link, fh_link, fc_link, fw_link, fu_same, fb_same, fi_same, fl_same, fh_same, fc_same, fw_same, fu_less, fb_less, fi_less, fl_less, fh_less, fc_less, fw_less, fu_not, fb_not, fi_not, fl_not, fh_not, fc_not, fw_not, fu_and, fb_and, fi_and, fl_and, fh_and, fc_and, fw_and, fu_or, fb_or, fi_or, fl_or, fh_or, fc_or, fw_or, fu_some, fb_some, fi_some, fl_some, fh_some, fc_some, fw_some, fu_all, fb_all, fi_all, fl_all, fh_all, fc_all, fw_all, fu_count, fb_count, fi_count, fl_count, fh_count, fc_count, fw_count, fu_way, fb_way, fi_way, fl_way, fh_way, fc_way, fw_way, fu_within, fb_within, fi_within, fl_within, fh_within, fc_within, fw_within, List.all_cons, List.all_nil, Bool.and_true, Bool.true_and, Bool.not_true, Bool.not_false, Bool.false_or, Bool.true_or, Bool.or_true, List.getD_cons_zero, List.getD_cons_succ, apart, List.length_cons, List.length_nil, Nat.zero_add, decide_true, inN_str]
      rw [show decide ((some 3 : Option Int) = some (((1 + 1 : Nat) : Int) + 1)) = true from rfl]
      have es : ∀ ns', isSay n s.d ns' = (decide (s.deep ≤ n) && s.ok ns') := fun ns' => ihs n ns' fun y hy => hn y (by simp [Say.nms, hy])
      have et : ∀ ns', isSay n t.d ns' = (decide (t.deep ≤ n) && t.ok ns') := fun ns' => iht n ns' fun y hy => hn y (by simp [Say.nms, hy])
      have hd : decide ((Say.and s t).deep ≤ n + 1) = (decide (s.deep ≤ n) && decide (t.deep ≤ n)) := dmx _ _ _
      simp only [hd, Say.ok, le6_eq, so0, so1, so2, List.append_nil, Nat.add_zero, tst_ok, num08, Bool.true_and, es, et]
      first | done | rfl | ac_rfl
  | or s t ihs iht =>
    intro n ns hn
    rw [d_head]
    cases n with
    | zero => rfl
    | succ n =>
      rw [say_step]
      simp only [headOf]
      simp only [isHdX, fu_has, fb_has, fi_has, fl_has, fh_has, fc_has, fw_has, fu_link, fb_link, fi_link, fl_link, fh_link, fc_link, fw_link, fu_same, fb_same, fi_same, fl_same, fh_same, fc_same, fw_same, fu_less, fb_less, fi_less, fl_less, fh_less, fc_less, fw_less, fu_not, fb_not, fi_not, fl_not, fh_not, fc_not, fw_not, fu_and, fb_and, fi_and, fl_and, fh_and, fc_and, fw_and, fu_or, fb_or, fi_or, fl_or, fh_or, fc_or, fw_or, fu_some, fb_some, fi_some, fl_some, fh_some, fc_some, fw_some, fu_all, fb_all, fi_all, fl_all, fh_all, fc_all, fw_all, fu_count, fb_count, fi_count, fl_count, fh_count, fc_count, fw_count, fu_way, fb_way, fi_way, fl_way, fh_way, fc_way, fw_way, fu_within, fb_within, fi_within, fl_within, fh_within, fc_within, fw_within, List.all_cons, List.all_nil, Bool.and_true, Bool.true_and, Bool.not_true, Bool.not_false, Bool.false_or, Bool.true_or, Bool.or_true, List.getD_cons_zero, List.getD_cons_succ, apart, List.length_cons, List.length_nil, Nat.zero_add, decide_true, inN_str]
      rw [show decide ((some 3 : Option Int) = some (((1 + 1 : Nat) : Int) + 1)) = true from rfl]
      have es : ∀ ns', isSay n s.d ns' = (decide (s.deep ≤ n) && s.ok ns') := fun ns' => ihs n ns' fun y hy => hn y (by simp [Say.nms, hy])
      have et : ∀ ns', isSay n t.d ns' = (decide (t.deep ≤ n) && t.ok ns') := fun ns' => iht n ns' fun y hy => hn y (by simp [Say.nms, hy])
      have hd : decide ((Say.or s t).deep ≤ n + 1) = (decide (s.deep ≤ n) && decide (t.deep ≤ n)) := dmx _ _ _
      simp only [hd, Say.ok, le6_eq, so0, so1, so2, List.append_nil, Nat.add_zero, tst_ok, num08, Bool.true_and, es, et]
      first | done | rfl | ac_rfl
  | some x s ihs =>
    intro n ns hn
    rw [d_head]
    cases n with
    | zero => rfl
    | succ n =>
      rw [say_step]
      simp only [headOf]
      have hx : isNm (.str x) = true := hn x (by simp [Say.nms])
      simp only [isHdX, fu_has, fb_has, fi_has, fl_has, fh_has, fc_has, fw_has, fu_link, fb_link, fi_link, fl_link, fh_link, fc_link, fw_link, fu_same, fb_same, fi_same, fl_same, fh_same, fc_same, fw_same, fu_less, fb_less, fi_less, fl_less, fh_less, fc_less, fw_less, fu_not, fb_not, fi_not, fl_not, fh_not, fc_not, fw_not, fu_and, fb_and, fi_and, fl_and, fh_and, fc_and, fw_and, fu_or, fb_or, fi_or, fl_or, fh_or, fc_or, fw_or, fu_some, fb_some, fi_some, fl_some, fh_some, fc_some, fw_some, fu_all, fb_all, fi_all, fl_all, fh_all, fc_all, fw_all, fu_count, fb_count, fi_count, fl_count, fh_count, fc_count, fw_count, fu_way, fb_way, fi_way, fl_way, fh_way, fc_way, fw_way, fu_within, fb_within, fi_within, fl_within, fh_within, fc_within, fw_within, List.all_cons, List.all_nil, Bool.and_true, Bool.true_and, Bool.not_true, Bool.not_false, Bool.false_or, Bool.true_or, Bool.or_true, List.getD_cons_zero, List.getD_cons_succ, apart, List.length_cons, List.length_nil, Nat.zero_add, decide_true, hx, inN_str]
      rw [show decide ((some 3 : Option Int) = some (((1 + 1 : Nat) : Int) + 1)) = true from rfl]
      have es : ∀ ns', isSay n s.d ns' = (decide (s.deep ≤ n) && s.ok ns') := fun ns' => ihs n ns' fun y hy => hn y (by simp [Say.nms, hy])
      have hd : decide ((Say.some x s).deep ≤ n + 1) = decide (s.deep ≤ n) := dle1 _ _
      simp only [hd, Say.ok, le6_eq, so0, so1, so2, List.append_nil, Nat.add_zero, tst_ok, num08, Bool.true_and, es]
      first | done | rfl | ac_rfl
  | all x s ihs =>
    intro n ns hn
    rw [d_head]
    cases n with
    | zero => rfl
    | succ n =>
      rw [say_step]
      simp only [headOf]
      have hx : isNm (.str x) = true := hn x (by simp [Say.nms])
      simp only [isHdX, fu_has, fb_has, fi_has, fl_has, fh_has, fc_has, fw_has, fu_link, fb_link, fi_link, fl_link, fh_link, fc_link, fw_link, fu_same, fb_same, fi_same, fl_same, fh_same, fc_same, fw_same, fu_less, fb_less, fi_less, fl_less, fh_less, fc_less, fw_less, fu_not, fb_not, fi_not, fl_not, fh_not, fc_not, fw_not, fu_and, fb_and, fi_and, fl_and, fh_and, fc_and, fw_and, fu_or, fb_or, fi_or, fl_or, fh_or, fc_or, fw_or, fu_some, fb_some, fi_some, fl_some, fh_some, fc_some, fw_some, fu_all, fb_all, fi_all, fl_all, fh_all, fc_all, fw_all, fu_count, fb_count, fi_count, fl_count, fh_count, fc_count, fw_count, fu_way, fb_way, fi_way, fl_way, fh_way, fc_way, fw_way, fu_within, fb_within, fi_within, fl_within, fh_within, fc_within, fw_within, List.all_cons, List.all_nil, Bool.and_true, Bool.true_and, Bool.not_true, Bool.not_false, Bool.false_or, Bool.true_or, Bool.or_true, List.getD_cons_zero, List.getD_cons_succ, apart, List.length_cons, List.length_nil, Nat.zero_add, decide_true, hx, inN_str]
      rw [show decide ((some 3 : Option Int) = some (((1 + 1 : Nat) : Int) + 1)) = true from rfl]
      have es : ∀ ns', isSay n s.d ns' = (decide (s.deep ≤ n) && s.ok ns') := fun ns' => ihs n ns' fun y hy => hn y (by simp [Say.nms, hy])
      have hd : decide ((Say.all x s).deep ≤ n + 1) = decide (s.deep ≤ n) := dle1 _ _
      simp only [hd, Say.ok, le6_eq, so0, so1, so2, List.append_nil, Nat.add_zero, tst_ok, num08, Bool.true_and, es]
      first | done | rfl | ac_rfl
  | count x k s ihs =>
    intro n ns hn
    rw [d_head]
    cases n with
    | zero => rfl
    | succ n =>
      rw [say_step]
      simp only [headOf]
      have hx : isNm (.str x) = true := hn x (by simp [Say.nms])
      simp only [isHdX, fu_has, fb_has, fi_has, fl_has, fh_has, fc_has, fw_has, fu_link, fb_link, fi_link, fl_link, fh_link, fc_link, fw_link, fu_same, fb_same, fi_same, fl_same, fh_same, fc_same, fw_same, fu_less, fb_less, fi_less, fl_less, fh_less, fc_less, fw_less, fu_not, fb_not, fi_not, fl_not, fh_not, fc_not, fw_not, fu_and, fb_and, fi_and, fl_and, fh_and, fc_and, fw_and, fu_or, fb_or, fi_or, fl_or, fh_or, fc_or, fw_or, fu_some, fb_some, fi_some, fl_some, fh_some, fc_some, fw_some, fu_all, fb_all, fi_all, fl_all, fh_all, fc_all, fw_all, fu_count, fb_count, fi_count, fl_count, fh_count, fc_count, fw_count, fu_way, fb_way, fi_way, fl_way, fh_way, fc_way, fw_way, fu_within, fb_within, fi_within, fl_within, fh_within, fc_within, fw_within, List.all_cons, List.all_nil, Bool.and_true, Bool.true_and, Bool.not_true, Bool.not_false, Bool.false_or, Bool.true_or, Bool.or_true, List.getD_cons_zero, List.getD_cons_succ, apart, List.length_cons, List.length_nil, Nat.zero_add, decide_true, hx, inN_str]
      rw [show decide ((some 4 : Option Int) = some (((1 + 1 + 1 : Nat) : Int) + 1)) = true from rfl]
      have es : ∀ ns', isSay n s.d ns' = (decide (s.deep ≤ n) && s.ok ns') := fun ns' => ihs n ns' fun y hy => hn y (by simp [Say.nms, hy])
      have hd : decide ((Say.count x k s).deep ≤ n + 1) = decide (s.deep ≤ n) := dle1 _ _
      simp only [hd, Say.ok, le6_eq, so0, so1, so2, List.append_nil, Nat.add_zero, tst_ok, num08, Bool.true_and, es]
      first | done | rfl | ac_rfl
  | way x y s a b ihs =>
    intro n ns hn
    rw [d_head]
    cases n with
    | zero => rfl
    | succ n =>
      rw [say_step]
      simp only [headOf]
      have hx : isNm (.str x) = true := hn x (by simp [Say.nms])
      have hy : isNm (.str y) = true := hn y (by simp [Say.nms])
      have ha : isNm (.str a) = true := hn a (by simp [Say.nms])
      have hb : isNm (.str b) = true := hn b (by simp [Say.nms])
      simp only [isHdX, fu_has, fb_has, fi_has, fl_has, fh_has, fc_has, fw_has, fu_link, fb_link, fi_link, fl_link, fh_link, fc_link, fw_link, fu_same, fb_same, fi_same, fl_same, fh_same, fc_same, fw_same, fu_less, fb_less, fi_less, fl_less, fh_less, fc_less, fw_less, fu_not, fb_not, fi_not, fl_not, fh_not, fc_not, fw_not, fu_and, fb_and, fi_and, fl_and, fh_and, fc_and, fw_and, fu_or, fb_or, fi_or, fl_or, fh_or, fc_or, fw_or, fu_some, fb_some, fi_some, fl_some, fh_some, fc_some, fw_some, fu_all, fb_all, fi_all, fl_all, fh_all, fc_all, fw_all, fu_count, fb_count, fi_count, fl_count, fh_count, fc_count, fw_count, fu_way, fb_way, fi_way, fl_way, fh_way, fc_way, fw_way, fu_within, fb_within, fi_within, fl_within, fh_within, fc_within, fw_within, List.all_cons, List.all_nil, Bool.and_true, Bool.true_and, Bool.not_true, Bool.not_false, Bool.false_or, Bool.true_or, Bool.or_true, List.getD_cons_zero, List.getD_cons_succ, apart, List.length_cons, List.length_nil, Nat.zero_add, decide_true, hx, hy, ha, hb, inN_str]
      rw [show decide ((some 6 : Option Int) = some (((1 + 1 + 1 + 1 + 1 : Nat) : Int) + 1)) = true from rfl]
      have es : ∀ ns', isSay n s.d ns' = (decide (s.deep ≤ n) && s.ok ns') := fun ns' => ihs n ns' fun y hy => hn y (by simp [Say.nms, hy])
      have hd : decide ((Say.way x y s a b).deep ≤ n + 1) = decide (s.deep ≤ n) := dle1 _ _
      simp only [hd, Say.ok, le6_eq, so0, so1, so2, List.append_nil, Nat.add_zero, tst_ok, num08, Bool.true_and, es]
      first | done | rfl | ac_rfl
  | within m x y s a b ihs =>
    intro n ns hn
    rw [d_head]
    cases n with
    | zero => rfl
    | succ n =>
      rw [say_step]
      simp only [headOf]
      have hx : isNm (.str x) = true := hn x (by simp [Say.nms])
      have hy : isNm (.str y) = true := hn y (by simp [Say.nms])
      have ha : isNm (.str a) = true := hn a (by simp [Say.nms])
      have hb : isNm (.str b) = true := hn b (by simp [Say.nms])
      simp only [isHdX, fu_has, fb_has, fi_has, fl_has, fh_has, fc_has, fw_has, fu_link, fb_link, fi_link, fl_link, fh_link, fc_link, fw_link, fu_same, fb_same, fi_same, fl_same, fh_same, fc_same, fw_same, fu_less, fb_less, fi_less, fl_less, fh_less, fc_less, fw_less, fu_not, fb_not, fi_not, fl_not, fh_not, fc_not, fw_not, fu_and, fb_and, fi_and, fl_and, fh_and, fc_and, fw_and, fu_or, fb_or, fi_or, fl_or, fh_or, fc_or, fw_or, fu_some, fb_some, fi_some, fl_some, fh_some, fc_some, fw_some, fu_all, fb_all, fi_all, fl_all, fh_all, fc_all, fw_all, fu_count, fb_count, fi_count, fl_count, fh_count, fc_count, fw_count, fu_way, fb_way, fi_way, fl_way, fh_way, fc_way, fw_way, fu_within, fb_within, fi_within, fl_within, fh_within, fc_within, fw_within, List.all_cons, List.all_nil, Bool.and_true, Bool.true_and, Bool.not_true, Bool.not_false, Bool.false_or, Bool.true_or, Bool.or_true, List.getD_cons_zero, List.getD_cons_succ, apart, List.length_cons, List.length_nil, Nat.zero_add, decide_true, hx, hy, ha, hb, inN_str]
      rw [show decide ((some 7 : Option Int) = some (((1 + 1 + 1 + 1 + 1 + 1 : Nat) : Int) + 1)) = true from rfl]
      have es : ∀ ns', isSay n s.d ns' = (decide (s.deep ≤ n) && s.ok ns') := fun ns' => ihs n ns' fun y hy => hn y (by simp [Say.nms, hy])
      have hd : decide ((Say.within m x y s a b).deep ≤ n + 1) = decide (s.deep ≤ n) := dle1 _ _
      simp only [hd, Say.ok, le6_eq, so0, so1, so2, List.append_nil, Nat.add_zero, tst_ok, num08, Bool.true_and, es]
      first | done | rfl | ac_rfl
end LW
set_option Elab.async false
set_option linter.all false
set_option maxRecDepth 100000
set_option maxHeartbeats 4000000
set_option pp.maxSteps 400
/-! sayings: forms, agree, what may be looked at, what is plain; each accepted value is a saying -/
namespace LW
open PySem PySem.Spec PyProof.Rows L2 EV PySem.XO PySem.W LamX
theorem inner_kids (s : Say Str) : innerL (headOf s).1 (headOf s).2 = s.kids.map Say.d := by cases s <;> rfl
theorem kids_deep {s p : Say Str} {n : Nat} (h : s.deep ≤ n + 1) (hp : p ∈ s.kids) : p.deep ≤ n := by
  have two : ∀ a b : Say Str, Nat.max a.deep b.deep + 1 ≤ n + 1 → p = a ∨ p = b → p.deep ≤ n := fun a b h e => by
    have h1 := Nat.le_max_left a.deep b.deep
    have h2 := Nat.le_max_right a.deep b.deep
    have e2 : Nat.max a.deep b.deep = max a.deep b.deep := rfl
    rcases e with rfl | rfl <;> omega
  cases s <;> simp only [Say.kids, List.mem_cons, List.not_mem_nil, or_false] at hp <;> simp only [Say.deep] at h <;> first
    | (subst hp; omega)
    | exact two _ _ h hp
    | cases hp
theorem kids_nms {s p : Say Str} (hp : p ∈ s.kids) : ∀ y ∈ p.nms, y ∈ s.nms := by
  intro y hy
  cases s <;> simp only [Say.kids, List.mem_cons, List.not_mem_nil, or_false] at hp <;> first
    | (subst hp; simp [Say.nms, hy])
    | (rcases hp with rfl | rfl <;> simp [Say.nms, hy])
    | cases hp
theorem forms_kids {α : Type} (s : Say α) : s.forms = s :: s.kids.flatMap Say.forms := by cases s <;> simp [Say.forms, Say.kids]
theorem forms_ok : ∀ (n : Nat) (s : Say Str), s.deep ≤ n → formsL n s.d = s.forms.map Say.d
  | 0, s, h => by have := s.deep_pos; omega
  | n + 1, s, h => by
    rw [forms_kids, List.map_cons, d_head]
    show _ :: (innerL (headOf s).1 (headOf s).2).flatMap (formsL n) = _
    rw [inner_kids, List.flatMap_map, List.map_flatMap]
    congr 1
    have : ∀ l : List (Say Str), (∀ p ∈ l, p.deep ≤ n) → l.flatMap (fun p => formsL n p.d) = l.flatMap fun p => p.forms.map Say.d := by
      intro l
      induction l with
      | nil => intro _; rfl
      | cons p l ih =>
        intro hl
        rw [List.flatMap_cons, List.flatMap_cons, ih fun q hq => hl q (List.mem_cons_of_mem _ hq), forms_ok n p (hl p (by simp))]
    exact this s.kids fun p hp => kids_deep h hp
/-! ### agree -/
def tabOf : Say Str → Option (Str × Nat)
  | .has t _ => some (t, 1)
  | .link t _ _ => some (t, 2)
  | _ => none
theorem tabs_forms : ∀ s : Say Str, s.tabs = s.forms.filterMap tabOf
  | .has t a => rfl
  | .link t a b => rfl
  | .same a b => rfl
  | .less a b => rfl
  | .not s => by simp [Say.tabs, Say.forms, tabOf, List.filterMap_cons, List.filterMap_append, tabs_forms s]
  | .and s t => by simp [Say.tabs, Say.forms, tabOf, List.filterMap_cons, List.filterMap_append, tabs_forms s, tabs_forms t]
  | .or s t => by simp [Say.tabs, Say.forms, tabOf, List.filterMap_cons, List.filterMap_append, tabs_forms s, tabs_forms t]
  | .some x s => by simp [Say.tabs, Say.forms, tabOf, List.filterMap_cons, List.filterMap_append, tabs_forms s]
  | .all x s => by simp [Say.tabs, Say.forms, tabOf, List.filterMap_cons, List.filterMap_append, tabs_forms s]
  | .count x k s => by simp [Say.tabs, Say.forms, tabOf, List.filterMap_cons, List.filterMap_append, tabs_forms s]
  | .way x y s a b => by simp [Say.tabs, Say.forms, tabOf, List.filterMap_cons, List.filterMap_append, tabs_forms s]
  | .within m x y s a b => by simp [Say.tabs, Say.forms, tabOf, List.filterMap_cons, List.filterMap_append, tabs_forms s]
def lkD (p : Str × Nat) : Str × Str := (p.1, if p.2 = 1 then "has" else "link")
theorem looks_tabs (l : List (Say Str)) : (looksL (l.map Say.d)).map (fun d => (lkY d, lkZ d)) = (l.filterMap tabOf).map lkD := by
  unfold looksL
  induction l with
  | nil => rfl
  | cons s l ih =>
    cases s <;> (rw [List.map_cons, List.filter_cons, List.filterMap_cons]; first | exact ih | exact congrArg (_ :: ·) ih)
theorem tabs_places (s : Say Str) : ∀ p ∈ s.tabs, p.2 = 1 ∨ p.2 = 2 := by
  rw [tabs_forms]
  intro p hp
  obtain ⟨f, _, hf⟩ := List.mem_filterMap.mp hp
  cases f <;> simp [tabOf] at hf <;> subst hf <;> simp
theorem agreeL_map (l : List D) : agreeL l = (l.map fun d => (lkY d, lkZ d)).all fun a => (l.map fun d => (lkY d, lkZ d)).all fun b => !decide (a.1 = b.1) || decide (a.2 = b.2) := by
  unfold agreeL
  simp only [List.all_map, Function.comp_def]
theorem agree_ok (s : Say Str) : agreeL (looksL (s.forms.map Say.d)) = Say.agreeB s.tabs := by
  rw [agreeL_map, looks_tabs, ← tabs_forms]
  unfold Say.agreeB
  simp only [List.all_map, Function.comp_def]
  have h := tabs_places s
  have hc : ∀ a ∈ s.tabs, ∀ b ∈ s.tabs, (!decide ((lkD a).1 = (lkD b).1) || decide ((lkD a).2 = (lkD b).2)) = (!decide (a.1 = b.1) || decide (a.2 = b.2)) := fun a ha b hb => by
    have ne1 : ("has" : Str) ≠ "link" := by decide +kernel
    obtain ⟨a1, a2⟩ := a
    obtain ⟨b1, b2⟩ := b
    rcases h _ ha with e | e <;> rcases h _ hb with e' | e' <;> dsimp only at e e' <;> subst e e' <;> simp [lkD, ne1, Ne.symm ne1]
  rw [Bool.eq_iff_iff, List.all_eq_true, List.all_eq_true]
  refine forall_congr' fun a => forall_congr' fun ha => ?_
  rw [List.all_eq_true, List.all_eq_true]
  exact forall_congr' fun b => forall_congr' fun hb => by rw [hc a ha b hb]
theorem say_bad {s : Say Str} {ns : List Str} (h : Nmd s.nms) : sayBad s.d ns = !s.good ns := by
  unfold sayBad Say.good
  rw [say_ok s 6 ns h]
  by_cases hd : s.deep ≤ 6
  · rw [decide_eq_true hd, Bool.true_and, forms_ok 6 s hd, List.length_map, agree_ok]
    have e : decide (12 < s.forms.length) = !decide (s.forms.length ≤ 12) := by
      by_cases h : s.forms.length ≤ 12
      · rw [decide_eq_true h, decide_eq_false (by omega)]; rfl
      · rw [decide_eq_false h, decide_eq_true (by omega)]; rfl
    rw [e]
    simp only [Bool.not_and]
  · rw [decide_eq_false hd]; rfl
/-! ### what may be looked at, what is plain -/
theorem nm_flat {y : Str} (h : isNm (.str y) = true) : Flat (.str y) := flat_str (by have := nm_len h; omega)
theorem tst_test (k : Tst) : TestOk k.d := by
  cases k <;> exact ⟨rfl, fun xs e => by
    cases e
    refine ⟨fun x hx => ?_, fun _ => ⟨_, _, rfl⟩⟩
    simp only [List.mem_cons, List.not_mem_nil, or_false] at hx
    rcases hx with rfl | rfl | rfl <;> rfl⟩
/-- an item of a saying -/
def Itm (s : Say Str) (x : D) : Prop := (∃ y, x = .str y ∧ y ∈ s.nms) ∨ (∃ m : Nat, x = .int m) ∨ (∃ k : Tst, x = k.d ∧ 2 ≤ s.deep) ∨ ∃ p ∈ s.kids, x = p.d
theorem itm_of (s : Say Str) : ∀ x ∈ (headOf s).2, Itm s x := by
  intro x hx
  have two : ∀ p : Say Str, 2 ≤ p.deep + 1 := fun p => by have := p.deep_pos; omega
  cases s <;> simp only [headOf, List.mem_cons, List.not_mem_nil, or_false] at hx <;> rcases hx with rfl | rfl | rfl | rfl | rfl | rfl <;> first
    | exact .inl ⟨_, rfl, by simp [Say.nms]⟩
    | exact .inr (.inr (.inr ⟨_, by simp [Say.kids], rfl⟩))
    | exact .inr (.inl ⟨_, rfl⟩)
    | exact .inr (.inr (.inl ⟨_, rfl, two _⟩))
theorem ty_say (s : Say Str) : (tyD s.d).isSome = true := by rw [d_head]; rfl
theorem ty_tst (k : Tst) : (tyD k.d).isSome = true := by cases k <;> rfl
theorem itm_ty {s : Say Str} {x : D} (h : Itm s x) : (tyD x).isSome = true := by
  rcases h with ⟨y, rfl, _⟩ | ⟨m, rfl⟩ | ⟨k, rfl, _⟩ | ⟨p, _, rfl⟩
  · rfl
  · rfl
  · exact ty_tst k
  · exact ty_say p
theorem say_test (s : Say Str) : TestOk s.d := by
  rw [d_head]
  refine ⟨rfl, fun xs e => ?_⟩
  cases e
  refine ⟨fun x hx => ?_, fun _ => ⟨_, _, rfl⟩⟩
  rcases List.mem_cons.mp hx with rfl | hx
  · rfl
  · exact itm_ty (itm_of s x hx)
theorem tst_tup (k : Tst) : ∃ z t, k.d = .tup (.str z :: t) ∧ z.length ≤ 1000 ∧ t.length ≤ 2 ∧ ∀ x ∈ t, ∃ m : Nat, x = .int m := by
  cases k with
  | least k => exact ⟨_, _, rfl, by decide +kernel, by simp, fun x hx => by simp only [List.mem_cons, List.not_mem_nil, or_false] at hx; rcases hx with rfl | rfl <;> exact ⟨_, rfl⟩⟩
  | most k => exact ⟨_, _, rfl, by decide +kernel, by simp, fun x hx => by simp only [List.mem_cons, List.not_mem_nil, or_false] at hx; rcases hx with rfl | rfl <;> exact ⟨_, rfl⟩⟩
  | rest m r => exact ⟨_, _, rfl, by decide +kernel, by simp, fun x hx => by simp only [List.mem_cons, List.not_mem_nil, or_false] at hx; rcases hx with rfl | rfl <;> exact ⟨_, rfl⟩⟩
theorem head_len (s : Say Str) : (headOf s).1.length ≤ 1000 := by cases s <;> (simp only [headOf]; decide +kernel)
theorem tst_sy (k : Tst) : ∀ n, Sy n k.d
  | 0 => trivial
  | n + 1 => by
    obtain ⟨z, t, e, hz, ht, hx⟩ := tst_tup k
    rw [e]
    refine sy_tup (by simp only [List.length_cons]; omega) (fun x h => ?_) (fun v h => ?_) (fun x h => ?_)
    · rcases List.mem_cons.mp h with rfl | h
      · exact flat_str hz
      · obtain ⟨m, rfl⟩ := hx x h; exact ⟨rfl, fun y e => by cases e⟩
    · have : v ∈ (.str z :: t : List D) := List.mem_of_getElem? h
      rcases List.mem_cons.mp this with rfl | h
      · exact testOk_str
      · obtain ⟨m, rfl⟩ := hx v h; exact ⟨rfl, fun y e => by cases e⟩
    · rcases List.mem_cons.mp h with rfl | h
      · exact sy_atom rfl (fun xs e => by cases e) n
      · obtain ⟨m, rfl⟩ := hx x h; exact sy_atom rfl (fun xs e => by cases e) n
theorem say_sy : ∀ (n : Nat) (s : Say Str), Nmd s.nms → Sy n s.d
  | 0, _, _ => trivial
  | n + 1, s, hn => by
    have hl := d_len s
    have hi := itm_of s
    rw [d_head]
    refine sy_tup (by simp only [List.length_cons]; omega) (fun x h => ?_) (fun v h => ?_) (fun x h => ?_)
    · rcases List.mem_cons.mp h with rfl | h
      · exact flat_str (head_len s)
      · rcases hi x h with ⟨y, rfl, hy⟩ | ⟨m, rfl⟩ | ⟨k, rfl, _⟩ | ⟨p, _, rfl⟩
        · exact nm_flat (hn y hy)
        · exact ⟨rfl, fun y e => by cases e⟩
        · cases k <;> exact flat_tup
        · rw [d_head]; exact flat_tup
    · have : v ∈ (.str (headOf s).1 :: (headOf s).2 : List D) := List.mem_of_getElem? h
      rcases List.mem_cons.mp this with rfl | h
      · exact testOk_str
      · rcases hi v h with ⟨y, rfl, hy⟩ | ⟨m, rfl⟩ | ⟨k, rfl, _⟩ | ⟨p, _, rfl⟩
        · exact testOk_str
        · exact ⟨rfl, fun y e => by cases e⟩
        · exact tst_test k
        · exact say_test p
    · rcases List.mem_cons.mp h with rfl | h
      · exact sy_atom rfl (fun xs e => by cases e) n
      · rcases hi x h with ⟨y, rfl, hy⟩ | ⟨m, rfl⟩ | ⟨k, rfl, _⟩ | ⟨p, hp, rfl⟩
        · exact sy_atom rfl (fun xs e => by cases e) n
        · exact sy_atom rfl (fun xs e => by cases e) n
        · exact tst_sy k n
        · exact say_sy n p fun y hy => hn y (kids_nms hp y hy)
end LW
set_option Elab.async false
set_option linter.all false
set_option maxRecDepth 100000
set_option maxHeartbeats 4000000
set_option pp.maxSteps 400
/-! questions made of sayings -/
namespace LW
open PySem PySem.Spec PyProof.Rows L2 EV PySem.XO PySem.W LamX
def qsF (ns : List Str) (s : Say Str) : List (Str × D) := [("names", .tup (ns.map D.str)), ("saying", s.d), ("forms", .int s.forms.length)]
abbrev qsD (C : Addr) (ns : List Str) (s : Say Str) : D := .ins C (qsF ns s)
theorem good_deep {α : Type} [DecidableEq α] {s : Say α} {ns : List α} (h : s.good ns = true) : s.deep ≤ 6 ∧ s.forms.length ≤ 12 := by
  unfold Say.good at h
  simp only [Bool.and_eq_true, decide_eq_true_eq] at h
  exact ⟨h.1.1, h.2.1⟩
theorem qs_qn {ns : List Str} {s : Say Str} (h : s.deep ≤ 6) : qnF (ns.map D.str) s.d = qsF ns s := by
  unfold qnF qsF
  rw [forms_ok 6 s h, List.length_map]
theorem nms_flat {ns : List Str} (h : Nmd ns) : ∀ x ∈ ns.map D.str, Flat x := fun x hx => by
  obtain ⟨y, hy, rfl⟩ := List.mem_map.mp hx
  exact nm_flat (h y hy)
theorem nms_pre {dn : D} {ns : List Str} (hd : Seq dn (ns.map D.str)) (h : Nmd ns) (hl : ns.length ≤ 1000) : NmPre dn := by
  rcases hd with rfl | rfl
  · exact nmPre_l (by rw [List.length_map]; exact hl) (nms_flat h)
  · exact nmPre_t (by rw [List.length_map]; exact hl) (nms_flat h)
section
variable {A : Str → Addr} {C : Addr} {O : Ow} {Q : QD} {E : QX} {dn : D} {ns : List Str} {s : Say Str}
theorem qnX_say (hd : Seq dn (ns.map D.str)) (h : Nmd ns) (hn : ns.Nodup) (hl : ns.length ≤ 3) (hs : Nmd s.nms) : qnX A dn s.d = if s.good ns = true then none else some (sayX A s.d) := by
  rw [qnX_seq hd, names_good hn hl h, strsOf_strs, say_bad hs]
  cases s.good ns <;> rfl
theorem mk_good (hd : Seq dn (ns.map D.str)) (h : Nmd ns) (hn : ns.Nodup) (hl : ns.length ≤ 3) (hs : Nmd s.nms) (hg : s.good ns = true) (q : Q (qsD C ns s) O) : mkG C (iniQ A C) [dn, s.d] O Q E := by
  have e := qnX_say (A := A) hd h hn hl hs
  rw [if_pos hg] at e
  refine mkG_qn (nms_pre hd h (by omega)) (ty_say s) (say_sy 6 s hs) (fun xs hx _ => ?_) fun x hx => by rw [e] at hx; cases hx
  have : xs = ns.map D.str := by rcases hd with rfl | rfl <;> rcases hx with hx | hx <;> cases hx <;> rfl
  rw [this, qs_qn (good_deep hg).1]
  exact q
end
end LW
set_option Elab.async false
set_option linter.all false
set_option maxRecDepth 100000
set_option maxHeartbeats 4000000
set_option pp.maxSteps 400
/-! drawn rows: _law_every, _law_mixed, _law_rows -/
namespace LW
open PySem PySem.Spec PyProof.Rows L2 EV PySem.XO PySem.W LamX
local macro_rules | `(tactic| walk_at "n") => `(tactic| refine st_norm (by simp only [List.set_cons_succ, List.set_cons_zero]; rfl) ?_)
def everyStep (n : Nat) (l : List (List Int)) : List (List Int) := (List.range (l.length * n)).map fun j => l.getD (j / n) [] ++ [((j % n : Nat) : Int)]
def everyL (n : Nat) : Nat → List (List Int)
  | 0 => (List.range n).map fun (a : Nat) => [(a : Int)]
  | p + 1 => everyStep n (everyL n p)
/-- a row of things -/
def isRow (n p : Nat) (r : List Int) : Bool := decide (r.length = p) && r.all fun m => decide (0 ≤ m) && decide (m < n)
def chkEv : Bool := (List.range 8).all fun k => (List.range 2).all fun p => ((everyL (k + 1) p).all fun r => isRow (k + 1) (p + 1) r) && (decide (everyL (k + 1) p).Nodup && decide ((everyL (k + 1) p).length ≤ 64))
theorem chkEv_ok : chkEv = true := by decide +kernel
theorem every_ok {n p : Nat} (h1 : 1 ≤ n) (h2 : n ≤ 8) (hp : p < 2) : (∀ r ∈ everyL n p, isRow n (p + 1) r = true) ∧ (everyL n p).Nodup ∧ (everyL n p).length ≤ 64 := by
  have h := List.all_eq_true.mp (List.all_eq_true.mp chkEv_ok (n - 1) (List.mem_range.mpr (by omega))) p (List.mem_range.mpr hp)
  rw [show n - 1 + 1 = n by omega] at h
  simp only [Bool.and_eq_true, decide_eq_true_eq, List.all_eq_true] at h
  exact ⟨h.1, h.2.1, h.2.2⟩
abbrev s_every : Stmt := topS 74
abbrev N_every : List Str := ["_law_size", "_law_places", "_law_found", "_law_k", "_law_a", "_law_j"]
theorem sc_every : FnScope N_every ["_law_size", "_law_places"] (defScope s_every) := ⟨rfl, rfl, rfl, by decide +kernel, rfl, by decide +kernel, by decide +kernel⟩
def evS : DSp := fun ds O Q _ => ∃ n p : Nat, ds = [.int n, .int (p + 1 : Nat)] ∧ 1 ≤ n ∧ n ≤ 8 ∧ p < 2 ∧ Q (.lst ((everyL n p).map rowD)) O
abbrev s_mixed : Stmt := topS 71
abbrev N_mixed : List Str := ["_law_box_here", "_law_some", "_law_found", "_law_item"]
theorem sc_mixed : FnScope N_mixed ["_law_box_here", "_law_some"] (defScope s_mixed) := ⟨rfl, rfl, rfl, by decide +kernel, rfl, by decide +kernel, by decide +kernel⟩
def mixS : DSp := fun ds O Q _ => ∃ xs : List D, ds = [.lst xs] ∧ xs.length ≤ 1000 ∧ ∀ ys : List D, ys.Perm xs → Q (.lst ys) O
theorem ins_perm {xs ys : List D} {x : D} {i : Nat} (h : ys.Perm xs) : (ys.take i ++ x :: ys.drop i).Perm (xs ++ [x]) := by
  have h1 : (ys.take i ++ x :: ys.drop i).Perm (x :: (ys.take i ++ ys.drop i)) := List.perm_middle
  rw [List.take_append_drop] at h1
  exact (h1.trans (h.cons x)).trans (List.perm_append_comm (l₁ := [x]))
section
variable {P : Program} {w : World} {K : PySem.W.Frag} {mg : Str → Option Value} {base : Heap}
theorem ok_every {f : Addr} {fd : FuncData} (F : Fun K "_law_every" "_law_every" s_every f fd) (m_int : mg "int" = none) (m_len : mg "len" = none) (m_range : mg "range" = none) :
    FnOk P w K mg base CX0 1 f fd ["_law_size", "_law_places"] (spD K evS) := by
  refine fn_pure F sc_every (fun ds O Q E h => ?_) (fun cdv A outer s H E hr =>
    (d_scons (d_set (i := 2) sc_every.nd rfl (.inr rfl) (d_lc rfl sc_every.nd (d_rng1 rfl m_range (d_cons (d_var (i := 0) rfl (.inr (.inl rfl)) (by decide) (by decide)) d_nil rfl) rfl) (blkOk_by (own := [("_law_a", 4)]) (N := N_every) (sc := defScope s_every) (by decide +kernel)) (fun _ _ _ _ _ => (dg_name (i := 4) sc_every.nd rfl (.inl rfl) (.inr rfl))) (fun _ _ _ _ _ => d_ifs0) (fun _ _ _ _ _ => (d_tup (d_cons (d_var (i := 4) rfl (.inl rfl) (by decide) (by decide)) d_nil rfl))) (by decide +kernel) (fun _ => rfl)) rfl (.inl rfl))
      (d_scons (d_for PassesOwn.never rfl (d_rng1 rfl m_range (d_cons (d_op od_sub (d_var (i := 1) rfl (.inl rfl) (by decide) (by decide)) d_int) d_nil rfl) rfl) (dg_name (i := 3) sc_every.nd rfl (.inl rfl) (.inl rfl)) (d_sone (d_set (i := 2) sc_every.nd rfl (.inr rfl) (d_lc rfl sc_every.nd (d_rng1 rfl m_range (d_cons (d_op od_mul (d_callB cd_len rfl m_len boot_len (d_cons (d_var (i := 2) rfl (.inr (.inl rfl)) (by decide) (by decide)) d_nil rfl) (by decide) (by decide) rfl rfl) (d_var (i := 0) rfl (.inr (.inl rfl)) (by decide) (by decide))) d_nil rfl) rfl) (blkOk_by (own := [("_law_j", 5)]) (N := N_every) (sc := defScope s_every) (by decide +kernel)) (fun _ _ _ _ _ => (dg_name (i := 5) sc_every.nd rfl (.inl rfl) (.inr rfl))) (fun _ _ _ _ _ => d_ifs0) (fun _ _ _ _ _ => (d_op od_add (d_ix (d_var (i := 2) rfl (.inr (.inl rfl)) (by decide) (by decide)) (d_op od_fdiv (d_callTy cd_int rfl m_int boot_int (d_cons (d_var (i := 5) rfl (.inl rfl) (by decide) (by decide)) d_nil rfl) (by decide) (by decide) rfl rfl) (d_var (i := 0) rfl (.inr (.inl rfl)) (by decide) (by decide))) (fun _ _ => rfl)) (d_tup (d_cons (d_op od_mod (d_callTy cd_int rfl m_int boot_int (d_cons (d_var (i := 5) rfl (.inl rfl) (by decide) (by decide)) d_nil rfl) (by decide) (by decide) rfl rfl) (d_var (i := 0) rfl (.inr (.inl rfl)) (by decide) (by decide))) d_nil rfl)))) (by decide +kernel) (fun _ => rfl)) rfl (.inl rfl))) (fun _ => rfl))
      (d_sone (d_ret (d_var (i := 2) rfl (.inr (.inl rfl)) (by decide) (by decide))))))) (fun ds O Q E h => ?_) (fun ds O Q E h => h)
  · obtain ⟨n, p, rfl, _⟩ := h; rfl
  · obtain ⟨n, p, rfl, h1, h8, hp, q⟩ := h
    rw [show startD N_every [.int n, .int (p + 1 : Nat)] = [.sh (.int n), .sh (.int (p + 1 : Nat)), .un, .un, .un, .un] from rfl]
    refine st_setD (.lst ((everyL n 0).map rowD)) (fun Q E q => ?_) ?_
    · refine val_rng n (by omega) (fun Q E q => q) _ _ ?_
      refine lcW_map (I := tt1) trivial (fun d => .tup [d]) (fun d hd Qy hq => ?_) (by simp only [rngD, List.length_map, List.length_range, List.length_nil]; exact szk (by omega)) ?_
      · refine tg_one [.sh (.int n), .sh (.int (p + 1 : Nat)), .un, .un, .sh d, .un] rfl ?_
        exact val_tup [d] (fun Q E q => q) (le_sz rfl) _ _ hq
      · refine cast (congrArg (fun z => Q (.lst z) O) ?_) q
        simp [rngD, everyL, rowD, List.map_map, Function.comp_def]
    walk_at "n"
    refine st_forJ (rngD 0 p) (fun i ρ => ∃ s3 : Sl, ρ = [.sh (.int n), .sh (.int (p + 1 : Nat)), .sh (.lst ((everyL n i).map rowD)), s3, .un, .un]) ?_ ⟨_, rfl⟩ ?_ ?_
    · exact val_rng p (by omega) (val_cons _ _ (val_op (.int (p + 1 : Nat)) (.int 1) (.int p) (fun Q E q => q) (fun Q E q => q) fun Q q => ⟨trivial, by show Q (.int (((p + 1 : Nat) : Int) - 1)); rw [show ((p + 1 : Nat) : Int) - 1 = (p : Int) by omega]; exact q⟩) val_nil)
    · rintro i dk hk ρ ⟨s3, rfl⟩ N hN
      obtain ⟨hi, rfl⟩ := rng_at hk
      refine tg_one [.sh (.int n), .sh (.int (p + 1 : Nat)), .sh (.lst ((everyL n i).map rowD)), .sh (.int i), .un, .un] rfl ?_
      obtain ⟨hrow, _, hle⟩ := every_ok h1 h8 (show i < 2 by omega)
      have hn64 : (everyL n i).length * n ≤ 512 := Nat.le_trans (Nat.mul_le_mul hle h8) (by decide)
      refine st_setL (.lst ((everyL n (i + 1)).map rowD)) (fun Q E q => ?_) (hN _ ⟨_, rfl⟩)
      have hlen : ∀ Q E, Q (.int ((everyL n i).map rowD).length) O → dCB lenO (dCons (dVar 2) dNil) [.sh (.int n), .sh (.int (p + 1 : Nat)), .sh (.lst ((everyL n i).map rowD)), .sh (.int i), .un, .un] O Q E := val_len (.inl rfl) fun Q E q => q
      refine val_rng ((everyL n i).length * n) (by omega) (val_cons _ _ (val_op (.int ((everyL n i).map rowD).length) (.int n) (.int ((everyL n i).length * n : Nat)) hlen (fun Q E q => q) (fun Q q => ⟨by rw [List.length_map]; constructor <;> omega, by rw [List.length_map, Int.natCast_mul] at *; exact q⟩)) val_nil) _ _ ?_
      refine lcW_map (I := tt1) trivial (fun d => match d with
        | .int j => rowD ((everyL n i).getD (j.toNat / n) [] ++ [((j.toNat % n : Nat) : Int)])
        | d => d) (fun d hd Qy hq => ?_) (by simp only [rngD, List.length_map, List.length_range, List.length_nil]; exact szk (by omega)) ?_
      · obtain ⟨j, hj, rfl⟩ : ∃ j : Nat, j < (everyL n i).length * n ∧ d = .int j := by
          obtain ⟨k, hk⟩ := List.getElem?_of_mem hd
          exact ⟨k, rng_at hk⟩
        refine tg_one [.sh (.int n), .sh (.int (p + 1 : Nat)), .sh (.lst ((everyL n i).map rowD)), .sh (.int i), .un, .sh (.int j)] rfl ?_
        have hdj : j / n < (everyL n i).length := Nat.div_lt_of_lt_mul (by rw [Nat.mul_comm]; exact hj)
        have hgr : ((everyL n i).map rowD)[j / n]? = some (rowD ((everyL n i).getD (j / n) [])) := by
          rw [List.getElem?_map, List.getD_eq_getElem?_getD, List.getElem?_eq_getElem hdj]
          rfl
        have hrl := hrow _ (List.getElem_mem hdj)
        have hd1 : ((j : Nat) : Int) / (n : Nat) = ((j / n : Nat) : Int) := (Int.natCast_ediv j n).symm
        have hm1 : ((j : Nat) : Int) % (n : Nat) = ((j % n : Nat) : Int) := (Int.natCast_emod j n).symm
        have hij : ∀ Q E, Q (.int j) O → dCB (pc toIntD) (dCons (dVar 5) dNil) [.sh (.int n), .sh (.int (p + 1 : Nat)), .sh (.lst ((everyL n i).map rowD)), .sh (.int i), .un, .sh (.int j)] O Q E := fun Q E q => q
        have hrlen : ((everyL n i).getD (j / n) []).length = i + 1 := by
          rw [List.getD_eq_getElem?_getD, List.getElem?_eq_getElem hdj]
          simp only [isRow, Bool.and_eq_true, decide_eq_true_eq] at hrl
          exact hrl.1
        have hq : Qy (rowD ((everyL n i).getD (j / n) [] ++ [((j % n : Nat) : Int)])) O := hq
        generalize (everyL n i).getD (j / n) [] = row at hgr hrlen hq
        refine val_op (rowD row) (.tup [.int ((j % n : Nat) : Int)]) (rowD (row ++ [((j % n : Nat) : Int)])) (val_ix (rs := (everyL n i).map rowD) (i := ((j / n : Nat) : Int)) (.inl rfl) (fun Q E q => q) (val_op (.int j) (.int n) (.int ((j / n : Nat) : Int)) hij (fun Q E q => q) fun Q q => ⟨⟨by omega, by omega⟩, by show Q (.int (((j : Nat) : Int) / (n : Nat))); rw [hd1]; exact q⟩) (atI_nat hgr)) (val_tup _ (val_cons _ _ (val_op (.int j) (.int n) (.int ((j % n : Nat) : Int)) hij (fun Q E q => q) fun Q q => ⟨by show (0 : Int) < (n : Nat); omega, by show Q (.int (((j : Nat) : Int) % (n : Nat))); rw [hm1]; exact q⟩) val_nil) (le_sz rfl)) (fun Q q => ⟨?_, ?_, ?_⟩) _ _ hq
        · intro z
          have := congrArg List.length z
          simp [hrlen] at this
        · simp [hrlen]; exact szk (by omega)
        · show Q (.tup (row.map D.int ++ [.int ((j % n : Nat) : Int)]))
          rw [show row.map D.int ++ [.int ((j % n : Nat) : Int)] = (row ++ [((j % n : Nat) : Int)]).map D.int by simp]
          exact q
      · refine cast (congrArg (fun z => Q (.lst z) O) ?_) q
        simp [rngD, everyL, everyStep, rowD, List.map_map, Function.comp_def]
    · rintro ρ ⟨s3, rfl⟩
      refine val_ret _ (fun Q E q => q) ?_
      rw [show (rngD 0 p).length = p by simp [rngD]]
      exact q
theorem ok_mixed {f fP : Addr} {fd fdP : FuncData} (F : Fun K "_law_mixed" "_law_mixed" s_mixed f fd) (G_pull : FnOk P w K mg base CX0 1 fP fdP ["_law_box_here", "_law_many"] (spB K pullS)) (T_pull : Gf K mg "_law_pull" fP fdP ["_law_box_here", "_law_many"])
    (m_len : mg "len" = none) : FnOk P w K mg base CX0 2 f fd ["_law_box_here", "_law_some"] (spB K mixS) := by
  refine fn_box F sc_mixed (fun ds O Q E h => ?_) (fun cdv A outer s H E b l T hr =>
    (d_scons (d_set (i := 2) sc_mixed.nd rfl (.inl rfl) (d_lstO d_nil) rfl (.inl rfl))
      (d_scons (d_for PassesOwn.never rfl (d_iter (d_var (i := 1) rfl (.inl rfl) (by decide) (by decide))) (dg_name (i := 3) sc_mixed.nd rfl (.inl rfl) (.inl rfl)) (d_sone (d_expr (d_lm lm_ins (d_var (i := 2) rfl (.inl rfl) (by decide) (by decide)) (d_cons (d_callX G_pull rfl (hr.mono (by decide)) rfl T_pull.m T_pull.k T_pull.b (fun _ => pass0A) (d_cons (d_var (i := 0) rfl (.inl rfl) (by decide) (by decide)) (d_cons (d_op od_add (d_callB cd_len rfl m_len boot_len (d_cons (d_var (i := 2) rfl (.inl rfl) (by decide) (by decide)) d_nil rfl) (by decide) (by decide) rfl rfl) d_int) d_nil rfl) rfl) (by decide) rfl rfl) (d_cons (d_var (i := 3) rfl (.inl rfl) (by decide) (by decide)) d_nil rfl) rfl) rfl rfl rfl rfl rfl) rfl)) (fun _ => rfl))
      (d_sone (d_ret (d_varF (i := 2) rfl (.inl rfl) (by decide) (by decide))))))) (fun b ds O Q E h => ?_) (fun ds O Q E h => h)
  · obtain ⟨xs, rfl, _⟩ := h; rfl
  · obtain ⟨xs, rfl, hl, q⟩ := h
    rw [show startD N_mixed [.opq (.ref b), .lst xs] = [.sh (.opq (.ref b)), .sh (.lst xs), .un, .un] from rfl]
    refine ⟨le_sz rfl, fun p np => ?_⟩
    dsimp only
    walk_at "n"
    refine st_forO xs (fun i ρ O' => ∃ (ys : List D) (s3 : Sl), ys.Perm (xs.take i) ∧ O' = oset O p (.lst ys) ∧ ρ = [.sh (.opq (.ref b)), .sh (.lst xs), .sh (.opq (.ref p)), s3]) (fun Q E q => q) ⟨[], _, by simp, rfl, rfl⟩ ?_ ?_
    · rintro i d hi ρ O' ⟨ys, s3, hp, rfl, rfl⟩ N hN
      refine tg_one [.sh (.opq (.ref b)), .sh (.lst xs), .sh (.opq (.ref p)), .sh d] rfl ?_
      refine ⟨p, ys, rfl, oset_same, ?_⟩
      have hyl : ys.length ≤ 1000 := by rw [hp.length_eq, List.length_take]; omega
      refine val_pull ((ys.length : Int) + 1) (fun Q E q => q) (val_op (.int ys.length) (.int 1) _ (val_lenH oset_same fun Q E q => q) (fun Q E q => q) fun Q q => q) (by omega) (by omega) _ _ fun k k0 k1 => ?_
      refine ⟨ys, oset_same, k.toNat, d, by rw [Int.toNat_of_nonneg k0], by omega, Nat.lt_of_le_of_lt hyl (by decide), ?_⟩
      refine hN _ _ ⟨_, _, ?_, oset_oset, rfl⟩
      rw [List.take_succ, hi]
      exact ins_perm hp
    · rintro ρ O' ⟨ys, s3, hp, rfl, rfl⟩
      refine ⟨_, oset_same, ?_⟩
      rw [List.take_length] at hp
      show Q (.lst ys) (odel (oset O p (.lst ys)) p)
      rw [odel_oset np]
      exact q ys hp
end
end LW
set_option Elab.async false
set_option linter.all false
set_option maxRecDepth 100000
set_option maxHeartbeats 4000000
set_option pp.maxSteps 400
/-! check_tables -/
namespace LW
open PySem PySem.Spec PyProof.Rows L2 EV PySem.XO PySem.W LamX
local macro_rules | `(tactic| walk_at "n") => `(tactic| refine st_norm (by simp only [List.set_cons_succ, List.set_cons_zero]; rfl) ?_)
abbrev s_check_tables : Stmt := topS 30
abbrev N_check_tables : List Str := ["size", "tables", "name", "told", "places", "rows", "at", "row"]
theorem sc_check_tables : FnScope N_check_tables ["size", "tables"] (defScope s_check_tables) := ⟨rfl, rfl, rfl, by decide +kernel, rfl, by decide +kernel, by decide +kernel⟩
/-- the items of a list or a tuple -/
def itsD : D → List D
  | .lst xs => xs
  | .tup xs => xs
  | _ => []
def tabD : D → Bool
  | .tup [p, r] => isNum p 1 2 && isLst r
  | _ => false
def tabOk (kd : Key × D) : Bool := isNm (kD kd.1) && tabD kd.2
/-- a row of ints, as data -/
def rowOf : D → List Int
  | .tup xs => xs.filterMap fun d => match d with
    | .int i => some i
    | _ => none
  | _ => []
def rowOk (n p : Int) : D → Bool
  | .tup xs => isTh xs p n
  | _ => false
def placesOf : D → Int
  | .tup (.int p :: _) => p
  | _ => 0
def rowsOf : D → List D
  | .tup [_, r] => itsD r
  | _ => []
/-- the first row that is wrong -/
def badRow (n p : Int) (xs : List D) : Option Nat := (List.range xs.length).find? fun i => !(rowOk n p (xs.getD i .non) && !decide (rowOf (xs.getD i .non) ∈ (xs.take i).map rowOf))
def manyX (A : Str → Addr) (k : Int) : Xc := (A "TooMany", errD "TooMany" ["most"] [.int k])
def tableX (A : Str → Addr) (d : D) : Xc := (A "InvalidTable", errD "InvalidTable" ["name"] [d])
def rowX (A : Str → Addr) (nm : Str) (i : Nat) : Xc := (A "InvalidRow", errD "InvalidRow" ["table", "at"] [.str nm, .int i])
def keysS (kds : List (Key × D)) : List Str := kds.filterMap fun kd => match kd.1 with
  | .inr x => some x
  | _ => none
def tabAt (kds : List (Key × D)) (nm : Str) : D := (valD kds (.inr nm)).getD .non
def rowsX (A : Str → Addr) (n : Int) (kds : List (Key × D)) : List Str → Option Xc
  | [] => none
  | nm :: r => match badRow n (placesOf (tabAt kds nm)) (rowsOf (tabAt kds nm)) with
    | some i => some (rowX A nm i)
    | none => rowsX A n kds r
def tabX (A : Str → Addr) (n : Int) (kds : List (Key × D)) : Option Xc :=
  if 4 < kds.length then some (manyX A 4) else match kds.find? fun kd => !tabOk kd with
    | some kd => some (tableX A (kD kd.1))
    | none => rowsX A n kds (srtS (keysS kds))
/-- what may be looked at -/
def RowPre (x : D) : Prop := (tyD x).isSome = true ∧ ∀ xs, x = .tup xs → xs.length ≤ 1000 ∧ ∀ y ∈ xs, (tyD y).isSome = true
def TabPre (kds : List (Key × D)) : Prop := ∀ kd ∈ kds, Flat (kD kd.1) ∧ (tyD kd.2).isSome = true ∧ ∀ xs, kd.2 = .tup xs → xs.length ≤ 1000 ∧ (∀ x ∈ xs, (tyD x).isSome = true) ∧ ∀ p r, xs = [p, r] → (itsD r).length ≤ 1000 ∧ ∀ x ∈ itsD r, RowPre x
def chkTS (A : Str → Addr) : DSp := fun ds O Q E => ∃ (n : Int) (kds : List (Key × D)), ds = [.int n, .dic kds] ∧ n ≤ 8 ∧ (kds.map (·.1)).Nodup ∧ kds.length ≤ 60 ∧ TabPre kds ∧ (tabX A n kds = none → Q .non O) ∧ ∀ x, tabX A n kds = some x → E x O
theorem th_ints {xs : List D} {p n : Int} (h : isTh xs p n = true) : ∃ r : List Int, xs = r.map D.int ∧ (r.length : Int) = p ∧ ∀ m ∈ r, 0 ≤ m ∧ m ≤ n - 1 := by
  unfold isTh at h
  rw [Bool.and_eq_true, decide_eq_true_eq, List.all_eq_true] at h
  obtain ⟨h1, h2⟩ := h
  have : ∀ ys : List D, (∀ x ∈ ys, isNum x 0 (n - 1) = true) → ∃ r : List Int, ys = r.map D.int ∧ ∀ m ∈ r, 0 ≤ m ∧ m ≤ n - 1 := by
    intro ys
    induction ys with
    | nil => intro _; exact ⟨[], rfl, fun m h => by cases h⟩
    | cons y ys ih =>
      intro hy
      obtain ⟨r, rfl, hr⟩ := ih fun x hx => hy x (List.mem_cons_of_mem _ hx)
      obtain ⟨i, rfl, h0, h1⟩ := num_int (hy y (by simp))
      refine ⟨i :: r, rfl, fun m hm => ?_⟩
      rcases List.mem_cons.mp hm with rfl | hm
      · exact ⟨h0, h1⟩
      · exact hr m hm
  obtain ⟨r, rfl, hr⟩ := this xs h2
  exact ⟨r, rfl, by simpa using h1, hr⟩
theorem rowOf_ints (r : List Int) : rowOf (.tup (r.map D.int)) = r := by
  show (r.map D.int).filterMap _ = r
  rw [List.filterMap_map]
  induction r with
  | nil => rfl
  | cons a r ih => rw [List.filterMap_cons]; exact congrArg (a :: ·) ih
theorem toPs_ints : ∀ r : List Int, toPs (r.map D.int) = some (r.map PyData.int)
  | [] => rfl
  | x :: r => by rw [List.map_cons, toPs, toPs_ints r]; rfl
theorem toPs_rows : ∀ rs : List (List Int), toPs (rs.map rowD) = some (rs.map fun r => PyData.tuple (r.map PyData.int))
  | [] => rfl
  | x :: rs => by
    rw [List.map_cons, toPs, toPs_rows rs, toP, toPs_ints]
    rfl
theorem eqvAll_ints : ∀ ns ms : List Int, PyData.eqvAll (ns.map PyData.int) (ms.map PyData.int) = decide (ns = ms)
  | [], [] => by simp [PyData.eqvAll]
  | [], _ :: _ => by simp [PyData.eqvAll]
  | _ :: _, [] => by simp [PyData.eqvAll]
  | x :: ns, y :: ms => by
    rw [List.map_cons, List.map_cons, PyData.eqvAll, eqvAll_ints ns ms]
    by_cases h : x = y
    · subst h; simp [PyData.eqv]
    · simp [PyData.eqv, h]
theorem shp_ints : ∀ r : List Int, PyData.canLayAll0 (r.map PyData.int) = true ∧ PyData.depthAll (r.map PyData.int) ≤ 1
  | [] => by simp [PyData.canLayAll0, PyData.depthAll]
  | x :: r => by
    have ih := shp_ints r
    simp [PyData.canLayAll0, PyData.depthAll, PyData.canLay0, PyData.depth, ih]
theorem shp_row (r : List Int) : SeqAt.shaped (.tuple (r.map PyData.int)) = true := by
  have := shp_ints r
  simp [SeqAt.shaped, PyData.canLay0, PyData.depth, this.1]
  omega
theorem shp_rowsA : ∀ rs : List (List Int), PyData.canLayAll0 (rs.map fun r => PyData.tuple (r.map PyData.int)) = true ∧ PyData.depthAll (rs.map fun r => PyData.tuple (r.map PyData.int)) ≤ 2
  | [] => by simp [PyData.canLayAll0, PyData.depthAll]
  | r :: rs => by
    have ih := shp_rowsA rs
    have h := shp_ints r
    simp [PyData.canLayAll0, PyData.depthAll, PyData.canLay0, PyData.depth, ih.1, h.1]
    omega
/-- x in rows, of rows of whole numbers -/
theorem in_rows {r : List Int} {rs : List (List Int)} {y : D} {Q : D → Prop} (hy : Seq y (rs.map rowD)) (q : Q (.bl (decide (r ∈ rs)))) : inLTD (rowD r) y Q := by
  have h2 := shp_rowsA rs
  refine ⟨rs.map rowD, hy, .tuple (r.map PyData.int), rs.map fun r => PyData.tuple (r.map PyData.int), by rw [toP, toPs_ints]; rfl, toPs_rows rs, shp_row r, ?_, ?_⟩
  · simp [SeqAt.shaped, PyData.canLay0, PyData.depth, h2.1]; omega
  · have e : ((rs.map fun r => PyData.tuple (r.map PyData.int)).any fun z => PyData.eqv z (.tuple (r.map PyData.int))) = decide (r ∈ rs) := by
      rw [List.any_map]
      rw [Bool.eq_iff_iff, List.any_eq_true, decide_eq_true_eq]
      constructor
      · rintro ⟨z, hz, e⟩
        simp only [Function.comp, PyData.eqv, eqvAll_ints, decide_eq_true_eq] at e
        rw [← e]; exact hz
      · exact fun h => ⟨r, h, by simp [PyData.eqv, eqvAll_ints]⟩
    rw [e]; exact q
end LW
set_option Elab.async false
set_option linter.all false
set_option maxRecDepth 100000
set_option maxHeartbeats 4000000
set_option pp.maxSteps 400
/-! check_tables, read -/
namespace LW
open PySem PySem.Spec PyProof.Rows L2 EV PySem.XO PySem.W LamX
local macro_rules | `(tactic| walk_at "n") => `(tactic| refine st_norm (by simp only [List.set_cons_succ, List.set_cons_zero]; rfl) ?_)
theorem find_first {kds : List (Key × D)} : ∀ {i : Nat} {kd : Key × D}, (∀ j, j < i → ∀ z, kds[j]? = some z → tabOk z = true) → kds[i]? = some kd → tabOk kd = false → kds.find? (fun kd => !tabOk kd) = some kd := by
  induction kds with
  | nil => intro i kd _ h; simp at h
  | cons a kds ih =>
    intro i kd hj hi hb
    cases i with
    | zero =>
      simp at hi; subst hi
      rw [List.find?_cons, hb]; rfl
    | succ i =>
      have ha := hj 0 (by omega) a (by simp)
      rw [List.find?_cons, ha]
      exact ih (fun j hj' z hz => hj (j + 1) (Nat.succ_lt_succ hj') z (by simpa using hz)) (by simpa using hi) hb
theorem find_none {kds : List (Key × D)} (h : ∀ kd ∈ kds, tabOk kd = true) : kds.find? (fun kd => !tabOk kd) = none := List.find?_eq_none.mpr fun kd hk => by rw [h kd hk]; decide
theorem rowsX_at {A : Str → Addr} {n : Int} {kds : List (Key × D)} : ∀ {l : List Str} {i : Nat} {nm : Str} {j : Nat}, (∀ m ∈ l.take i, badRow n (placesOf (tabAt kds m)) (rowsOf (tabAt kds m)) = none) → l[i]? = some nm → badRow n (placesOf (tabAt kds nm)) (rowsOf (tabAt kds nm)) = some j → rowsX A n kds l = some (rowX A nm j)
  | [], _, _, _, _, h, _ => by simp at h
  | a :: l, 0, nm, j, _, h, hb => by
    simp at h; subst h
    unfold rowsX
    rw [hb]
  | a :: l, i + 1, nm, j, ha, h, hb => by
    unfold rowsX
    rw [ha a (by simp)]
    exact rowsX_at (fun m hm => ha m (by rw [List.take_succ_cons]; exact List.mem_cons_of_mem _ hm)) (by simpa using h) hb
theorem rowsX_none {A : Str → Addr} {n : Int} {kds : List (Key × D)} : ∀ {l : List Str}, (∀ m ∈ l, badRow n (placesOf (tabAt kds m)) (rowsOf (tabAt kds m)) = none) → rowsX A n kds l = none
  | [], _ => rfl
  | a :: l, h => by
    unfold rowsX
    rw [h a (by simp)]
    exact rowsX_none fun m hm => h m (List.mem_cons_of_mem _ hm)
theorem keys_strs {kds : List (Key × D)} (h : ∀ kd ∈ kds, tabOk kd = true) : kds.map (·.1) = (keysS kds).map Sum.inr ∧ ∀ nm ∈ keysS kds, isNm (.str nm) = true := by
  induction kds with
  | nil => exact ⟨rfl, fun _ h => by cases h⟩
  | cons a kds ih =>
    obtain ⟨k, v⟩ := a
    obtain ⟨e, hn⟩ := ih fun kd hk => h kd (List.mem_cons_of_mem _ hk)
    have ha := h (k, v) (by simp)
    unfold tabOk at ha
    rw [Bool.and_eq_true] at ha
    cases k with
    | inl i => exact absurd ha.1 (by simp [kD, isNm])
    | inr x =>
      refine ⟨by show _ :: _ = _ :: _; rw [e]; rfl, fun nm hm => ?_⟩
      have hm : nm ∈ x :: keysS kds := hm
      rcases List.mem_cons.mp hm with rfl | hm
      · exact ha.1
      · exact hn nm hm
theorem tab_shape {v : D} (h : tabD v = true) : ∃ (p : Int) (r : D), v = .tup [.int p, r] ∧ 1 ≤ p ∧ p ≤ 2 ∧ Seq r (itsD r) := by
  unfold tabD at h
  split at h
  · rename_i p r
    rw [Bool.and_eq_true] at h
    obtain ⟨i, rfl, h1, h2⟩ := num_int h.1
    refine ⟨i, r, rfl, h1, h2, ?_⟩
    cases r <;> first | exact .inl rfl | exact .inr rfl | cases h.2
  · cases h
theorem valD_mem {kds : List (Key × D)} (hn : (kds.map (·.1)).Nodup) {kd : Key × D} (h : kd ∈ kds) : valD kds kd.1 = some kd.2 := by
  induction kds with
  | nil => cases h
  | cons a kds ih =>
    rw [List.map_cons, List.nodup_cons] at hn
    rcases List.mem_cons.mp h with rfl | h
    · simp [valD, List.find?_cons]
    · have ne : a.1 ≠ kd.1 := fun e => hn.1 (by rw [e]; exact List.mem_map_of_mem h)
      have := ih hn.2 h
      unfold valD at this ⊢
      rw [List.find?_cons, decide_eq_false ne]
      exact this
theorem rows_rowD {n p : Int} : ∀ {ys : List D}, (∀ x ∈ ys, rowOk n p x = true) → ∃ rs : List (List Int), ys = rs.map rowD ∧ ys.map rowOf = rs
  | [], _ => ⟨[], rfl, rfl⟩
  | y :: ys, h => by
    obtain ⟨rs, e1, e2⟩ := rows_rowD (n := n) (p := p) fun x hx => h x (List.mem_cons_of_mem _ hx)
    have hy := h y (by simp)
    cases y <;> first | cases hy; done | skip
    rename_i xs
    obtain ⟨r, rfl, _⟩ := th_ints (show isTh xs p n = true from hy)
    exact ⟨r :: rs, by rw [List.map_cons, ← e1], by rw [List.map_cons, e2, rowOf_ints]⟩
section
variable {P : Program} {w : World} {K : PySem.W.Frag} {mg : Str → Option Value} {base : Heap}
theorem ok_check_tables {f fN fM fL fT : Addr} {fd fdN fdM fdL fdT : FuncData} {A : Str → Addr} (F : Fun K "check_tables" "check_tables" s_check_tables f fd)
    (G_is_name : FnOk P w K mg base CX0 1 fN fdN ["value"] (spD K nameS)) (T_is_name : Gf K mg "is_name" fN fdN ["value"])
    (G_is_number : FnOk P w K mg base CX0 1 fM fdM ["value", "least", "most"] (spD K numS)) (T_is_number : Gf K mg "is_number" fM fdM ["value", "least", "most"])
    (G_is_listed : FnOk P w K mg base CX0 1 fL fdL ["value"] (spD K listedS)) (T_is_listed : Gf K mg "is_listed" fL fdL ["value"])
    (G_are_things : FnOk P w K mg base CX0 2 fT fdT ["values", "many", "size"] (spD K thS)) (T_are_things : Gf K mg "are_things" fT fdT ["values", "many", "size"])
    (m_len : mg "len" = none) (m_isinstance : mg "isinstance" = none) (m_tuple : mg "tuple" = none) (m_list : mg "list" = none) (m_sorted : mg "sorted" = none) (m_enumerate : mg "enumerate" = none)
    {t1 : Tok} (M_MOST_TABLES : mg "MOST_TABLES" = some (.int 4 t1))
    (E_TooMany : Err P w K mg base 2 (A "TooMany") "TooMany" ["most"]) (M_TooMany : mg "TooMany" = some (.ref (A "TooMany")))
    (E_InvalidTable : Err P w K mg base 2 (A "InvalidTable") "InvalidTable" ["name"]) (M_InvalidTable : mg "InvalidTable" = some (.ref (A "InvalidTable")))
    (E_InvalidRow : Err P w K mg base 2 (A "InvalidRow") "InvalidRow" ["table", "at"]) (M_InvalidRow : mg "InvalidRow" = some (.ref (A "InvalidRow"))) :
    FnOk P w K mg base (L2.CX P w) 4 f fd ["size", "tables"] (spD K (chkTS A)) := by
  refine fn_exc F sc_check_tables (fun ds O Q E h => ?_) (fun cdv A outer s H E hr tk =>
    (d_scons (d_ifS (d_tcmp od_gt (d_callB cd_lenK rfl m_len boot_len (d_cons (d_var (i := 1) rfl (.inl rfl) (by decide) (by decide)) d_nil rfl) (by decide) (by decide) rfl rfl) (d_globI rfl M_MOST_TABLES (by decide)) (nomark _)) (d_sone (d_raise rfl tk E_TooMany (hr.mono (by decide)) rfl M_TooMany (d_cons (d_globI rfl M_MOST_TABLES (by decide)) d_nil rfl) (by decide) rfl rfl)) d_snil)
      (d_scons (d_for (passes_of rfl) rfl (d_items (d_var (i := 1) rfl (.inl rfl) (by decide) (by decide)) rfl rfl) (dg_tup (n := 2) rfl (dgs_cons (dg_name (i := 2) sc_check_tables.nd rfl (.inl rfl) (.inl rfl)) (dgs_cons (dg_name (i := 3) sc_check_tables.nd rfl (.inl rfl) (.inl rfl)) dgs_nil rfl) rfl) rfl rfl) (d_scons (d_ifS (DPW.pt (d_wor (d_tnot (d_test (d_call G_is_name (hr.mono (by decide)) rfl T_is_name.m T_is_name.k T_is_name.b (fun _ => pass0A) (d_cons (d_var (i := 2) rfl (.inl rfl) (by decide) (by decide)) d_nil rfl) (by decide) rfl rfl) (by intro _; rfl))) (d_wor (d_tnot (d_test (d_callB cd_isi rfl m_isinstance boot_isinstance (d_cons (d_var (i := 3) rfl (.inl rfl) (by decide) (by decide)) (d_cons (d_ty rfl m_tuple boot_tuple (by decide) (by decide)) d_nil rfl) rfl) (by decide) (by decide) rfl rfl) (by intro _; rfl))) (d_or1 (d_tcmp (od_ne hr.units) (d_callB cd_len rfl m_len boot_len (d_cons (d_var (i := 3) rfl (.inl rfl) (by decide) (by decide)) d_nil rfl) (by decide) (by decide) rfl rfl) d_int (nomark _)))))) (d_sone (d_raise rfl tk E_InvalidTable (hr.mono (by decide)) rfl M_InvalidTable (d_cons (d_var (i := 2) rfl (.inl rfl) (by decide) (by decide)) d_nil rfl) (by decide) rfl rfl)) d_snil)
      (d_sone (d_ifS (DPW.pt (d_wor (d_tnot (d_test (d_call G_is_number (hr.mono (by decide)) rfl T_is_number.m T_is_number.k T_is_number.b (fun _ => pass0A) (d_cons (d_ix (d_var (i := 3) rfl (.inl rfl) (by decide) (by decide)) d_int (fun _ _ => rfl)) (d_cons d_int (d_cons d_int d_nil rfl) rfl) rfl) (by decide) rfl rfl) (by intro _; rfl))) (d_or1 (d_tnot (d_test (d_call G_is_listed (hr.mono (by decide)) rfl T_is_listed.m T_is_listed.k T_is_listed.b (fun _ => pass0A) (d_cons (d_ix (d_var (i := 3) rfl (.inl rfl) (by decide) (by decide)) d_int (fun _ _ => rfl)) d_nil rfl) (by decide) rfl rfl) (by intro _; rfl)))))) (d_sone (d_raise rfl tk E_InvalidTable (hr.mono (by decide)) rfl M_InvalidTable (d_cons (d_var (i := 2) rfl (.inl rfl) (by decide) (by decide)) d_nil rfl) (by decide) rfl rfl)) d_snil))) (fun _ => rfl))
      (d_sone (d_for (passes_of rfl) rfl (d_iter (d_callB (cd_sortS rfl) rfl m_sorted boot_sorted (d_cons (d_callTy (cd_listK rfl) rfl m_list boot_list (d_cons (d_var (i := 1) rfl (.inl rfl) (by decide) (by decide)) d_nil rfl) (by decide) (by decide) rfl rfl) d_nil rfl) (by decide) (by decide) rfl rfl)) (dg_name (i := 2) sc_check_tables.nd rfl (.inl rfl) (.inl rfl)) (d_scons (d_asg (d_dget (hud hr) (d_var (i := 1) rfl (.inl rfl) (by decide) (by decide)) (d_var (i := 2) rfl (.inl rfl) (by decide) (by decide)) (fun _ _ => rfl)) (dg_tup (n := 2) rfl (dgs_cons (dg_name (i := 4) sc_check_tables.nd rfl (.inl rfl) (.inl rfl)) (dgs_cons (dg_name (i := 5) sc_check_tables.nd rfl (.inl rfl) (.inl rfl)) dgs_nil rfl) rfl) rfl rfl) rfl rfl rfl)
      (d_sone (d_for (passes_of rfl) rfl (d_enum rfl m_enumerate (d_cons (d_var (i := 5) rfl (.inl rfl) (by decide) (by decide)) d_nil rfl) rfl) (dg_tup (n := 2) rfl (dgs_cons (dg_name (i := 6) sc_check_tables.nd rfl (.inl rfl) (.inl rfl)) (dgs_cons (dg_name (i := 7) sc_check_tables.nd rfl (.inl rfl) (.inl rfl)) dgs_nil rfl) rfl) rfl rfl) (d_sone (d_ifS (DPW.pt (d_wor (d_tnot (d_test (d_callB cd_isi rfl m_isinstance boot_isinstance (d_cons (d_var (i := 7) rfl (.inl rfl) (by decide) (by decide)) (d_cons (d_ty rfl m_tuple boot_tuple (by decide) (by decide)) d_nil rfl) rfl) (by decide) (by decide) rfl rfl) (by intro _; rfl))) (d_wor (d_tnot (d_test (d_call G_are_things (hr.mono (by decide)) rfl T_are_things.m T_are_things.k T_are_things.b (fun _ => pass0A) (d_cons (d_var (i := 7) rfl (.inl rfl) (by decide) (by decide)) (d_cons (d_var (i := 4) rfl (.inl rfl) (by decide) (by decide)) (d_cons (d_var (i := 0) rfl (.inl rfl) (by decide) (by decide)) d_nil rfl) rfl) rfl) (by decide) rfl rfl) (by intro _; rfl))) (d_or1 (d_tcmp (od_inLT (hu1 hr)) (d_var (i := 7) rfl (.inl rfl) (by decide) (by decide)) (d_sl (d_var (i := 5) rfl (.inl rfl) (by decide) (by decide)) d_nopart (d_part (d_var (i := 6) rfl (.inl rfl) (by decide) (by decide)))) rfl))))) (d_sone (d_raise rfl tk E_InvalidRow (hr.mono (by decide)) rfl M_InvalidRow (d_cons (d_var (i := 2) rfl (.inl rfl) (by decide) (by decide)) (d_cons (d_var (i := 6) rfl (.inl rfl) (by decide) (by decide)) d_nil rfl) rfl) (by decide) rfl rfl)) d_snil)) (fun _ => rfl)))) (fun _ => rfl)))))) (fun ds O Q E h => ?_)
  · obtain ⟨n, kds, rfl, _⟩ := h; rfl
  · obtain ⟨n, kds, rfl, hn8, hnd, hk60, hpre, q, qx⟩ := h
    rw [show startD N_check_tables [.int n, .dic kds] = [.sh (.int n), .sh (.dic kds), .un, .un, .un, .un, .un, .un] from rfl]
    refine st_if (decide ((4 : Int) < (kds.length : Nat))) (val_tstB _ (val_op (.int kds.length) (.int 4) _ (fun Q E q => q) (fun Q E q => q) fun Q q => q)) ?_
    by_cases h4 : 4 < kds.length
    · rw [decide_eq_true (by omega)]
      exact bcT (val_raise [.int 4] rfl (fun Q E q => q) (qx _ (by unfold tabX; rw [if_pos h4]; rfl)))
    rw [decide_eq_false (by omega)]
    refine bcN ?_
    dsimp only
    have X0 : tabX A n kds = match kds.find? fun kd => !tabOk kd with
      | some kd => some (tableX A (kD kd.1))
      | none => rowsX A n kds (srtS (keysS kds)) := by unfold tabX; exact if_neg h4
    refine st_forJ (kds.map fun kd => .tup [kD kd.1, kd.2]) (fun i ρ => (∀ j, j < i → ∀ z, kds[j]? = some z → tabOk z = true) ∧ ∃ s2 s3 : Sl, ρ = [.sh (.int n), .sh (.dic kds), s2, s3, .un, .un, .un, .un]) ?_ ⟨fun j hj => absurd hj (Nat.not_lt_zero j), _, _, rfl⟩ ?_ ?_
    · exact fun Q E q => q
    · rintro i d hi ρ ⟨hok, s2, s3, rfl⟩ N hN
      rw [List.getElem?_map] at hi
      obtain ⟨kd, hkd, rfl⟩ := Option.map_eq_some_iff.mp hi
      obtain ⟨k, v⟩ := kd
      obtain ⟨hfl, tyv, hv⟩ := hpre (k, v) (List.mem_of_getElem? hkd)
      dsimp only at hfl tyv hv
      have bad : tabOk (k, v) = false → tabX A n kds = some (tableX A (kD k)) := fun hb => by rw [X0, find_first hok hkd hb]
      refine tg_tup rfl (tg_pair [.sh (.int n), .sh (.dic kds), .sh (kD k), .sh v, .un, .un, .un, .un] rfl ?_)
      have raise : ∀ (A' : DEnds), A'.ex = (endsD Q E).ex → tabOk (k, v) = false → dRaise (A "InvalidTable") "InvalidTable" ["name"] (dCons (dVar 2) dNil) A' [.sh (.int n), .sh (.dic kds), .sh (kD k), .sh v, .un, .un, .un, .un] O := fun A' hA hb => val_raise [kD k] rfl (fun Q E q => q) (by rw [hA]; exact qx _ (bad hb))
      have hname : ∀ Q E, Q (isNm (kD k)) O → dTest (dCall nameS (dCons (dVar 2) dNil)) [.sh (.int n), .sh (.dic kds), .sh (kD k), .sh v, .un, .un, .un, .un] O Q E := val_tst _ (val_call [kD k] _ (fun Q E q => q) fun Q E q => ⟨_, rfl, hfl.1, hfl.2, q⟩)
      cases hb : isNm (kD k) with
      | false => exact st_if true (val_or1 (val_not false fun Q E q => hname Q E (by rw [hb]; exact q))) (bcT (raise _ rfl (by unfold tabOk; rw [hb]; rfl)))
      | true =>
        have hnm1 : ∀ Q E, Q false O → dNot (dTest (dCall nameS (dCons (dVar 2) dNil))) [.sh (.int n), .sh (.dic kds), .sh (kD k), .sh v, .un, .un, .un, .un] O Q E := val_not true fun Q E q => hname Q E (by rw [hb]; exact q)
        by_cases hv2 : ∃ p r, v = .tup [p, r]
        · obtain ⟨p, r, rfl⟩ := hv2
          obtain ⟨_, hxs, _⟩ := hv _ rfl
          have tp := hxs p (by simp)
          have tr := hxs r (by simp)
          refine st_if false (val_or2 hnm1 (val_or2 (val_not true (val_tst _ fun Q E q => ⟨rfl, rfl, q⟩)) (val_tstB _ (val_op (.int 2) (.int 2) (.bl false) (fun Q E q => q) (fun Q E q => q) fun Q q => q)))) (bcN ?_)
          dsimp only
          have hnum : ∀ Q E, Q (isNum p 1 2) O → dTest (dCall numS (dCons (dOp ixD (dVar 3) (dC (.int 0))) (dCons (dC (.int 1)) (dCons (dC (.int 2)) dNil)))) [.sh (.int n), .sh (.dic kds), .sh (kD k), .sh (.tup [p, r]), .un, .un, .un, .un] O Q E := val_tst _ (val_call [p, .int 1, .int 2] _ (val_cons _ _ (val_ix (.inr rfl) (fun Q E q => q) (fun Q E q => q) ax0) (fun Q E q => q)) fun Q E q => ⟨_, _, _, rfl, tp, q⟩)
          have hlst : ∀ Q E, Q (isLst r) O → dTest (dCall listedS (dCons (dOp ixD (dVar 3) (dC (.int 1))) dNil)) [.sh (.int n), .sh (.dic kds), .sh (kD k), .sh (.tup [p, r]), .un, .un, .un, .un] O Q E := val_tst _ (val_call [r] _ (val_cons _ _ (val_ix (.inr rfl) (fun Q E q => q) (fun Q E q => q) ax1) (fun Q E q => q)) fun Q E q => ⟨_, rfl, tr, q⟩)
          cases hp : isNum p 1 2 with
          | false => exact st_if1 true (val_or1 (val_not false fun Q E q => hnum Q E (by rw [hp]; exact q))) (bcT (raise _ rfl (by show (isNm (kD k) && (isNum p 1 2 && isLst r)) = false; rw [hb, hp]; rfl)))
          | true =>
            cases hr : isLst r with
            | false => exact st_if1 true (val_or2 (val_not true fun Q E q => hnum Q E (by rw [hp]; exact q)) (val_not false fun Q E q => hlst Q E (by rw [hr]; exact q))) (bcT (raise _ rfl (by show (isNm (kD k) && (isNum p 1 2 && isLst r)) = false; rw [hb, hp, hr]; rfl)))
            | true =>
              refine st_if1 false (val_or2 (val_not true fun Q E q => hnum Q E (by rw [hp]; exact q)) (val_not true fun Q E q => hlst Q E (by rw [hr]; exact q))) (bcF (hN _ ⟨fun j hj z hz => ?_, _, _, rfl⟩))
              rcases Nat.lt_succ_iff_lt_or_eq.mp hj with hj | rfl
              · exact hok j hj z hz
              · rw [hkd] at hz; cases hz
                show (isNm (kD k) && (isNum p 1 2 && isLst r)) = true
                rw [hb, hp, hr]; rfl
        · have hno : tabOk (k, v) = false := by
            unfold tabOk tabD
            rw [hb]
            split
            · rename_i p r e; exact absurd ⟨p, r, e⟩ hv2
            · rfl
          have key : ∀ Q E, Q true O → dOr (dNot (dTest (dCB (pc isiD) (dCons (dVar 3) (dCons (dC (.opq (.ty "tuple"))) dNil))))) (dTestB (dOp (pu (eqD not)) (dCB lenO (dCons (dVar 3) dNil)) (dC (.int 2)))) [.sh (.int n), .sh (.dic kds), .sh (kD k), .sh v, .un, .un, .un, .un] O Q E := by
            cases v with
            | tup xs =>
              have hl2 : xs.length ≠ 2 := fun e => by
                match xs, e with
                | [p, r], _ => exact hv2 ⟨p, r, rfl⟩
              refine val_or2 (val_not true (val_tst _ fun Q E q => ⟨rfl, rfl, q⟩)) (val_tstB _ (val_op (.int xs.length) (.int 2) (.bl true) (val_len (.inr rfl) fun Q E q => q) (fun Q E q => q) fun Q q => ?_))
              show Q (.bl (!decide ((xs.length : Int) = 2)))
              rw [decide_eq_false (by omega)]
              exact q
            | opq => cases tyv
            | ins => cases tyv
            | exc => cases tyv
            | lam => cases tyv
            | _ => exact val_or1 (val_not false (val_tst _ fun Q E q => ⟨rfl, rfl, q⟩))
          exact st_if true (val_or2 hnm1 key) (bcT (raise _ rfl hno))
    · rintro ρ ⟨hok, s2, s3, rfl⟩
      have hall : ∀ kd ∈ kds, tabOk kd = true := fun kd hk => by
        obtain ⟨j, hj⟩ := List.getElem?_of_mem hk
        exact hok j (by rw [List.length_map]; exact getElem?_lt hj) kd hj
      obtain ⟨ek, hks⟩ := keys_strs hall
      rw [find_none hall] at X0
      have X1 : tabX A n kds = rowsX A n kds (srtS (keysS kds)) := X0
      have hkl : (keysS kds).length = kds.length := by
        have := congrArg List.length ek
        rw [List.length_map, List.length_map] at this
        exact this.symm
      have ekd : (kds.map fun kd => kD kd.1) = (keysS kds).map D.str := by
        have e : (kds.map fun kd => kD kd.1) = (kds.map (·.1)).map kD := by rw [List.map_map]; rfl
        rw [e, ek, List.map_map]; rfl
      refine st_forJL ((srtS (keysS kds)).map D.str) (fun i ρ => (∀ m ∈ (srtS (keysS kds)).take i, badRow n (placesOf (tabAt kds m)) (rowsOf (tabAt kds m)) = none) ∧ ∃ s2 s3 s4 s5 s6 s7 : Sl, ρ = [.sh (.int n), .sh (.dic kds), s2, s3, s4, s5, s6, s7]) (fun Q E q => ⟨keysS kds, ekd, by omega, q⟩) ⟨fun m hm => (by simp at hm), _, _, _, _, _, _, rfl⟩ ?_ ?_
      · rintro i d hi ρ ⟨hgood, s2, s3, s4, s5, s6, s7, rfl⟩ N hN
        rw [List.getElem?_map] at hi
        obtain ⟨nm, hnmi, rfl⟩ := Option.map_eq_some_iff.mp hi
        have hmk : nm ∈ keysS kds := (srtS_perm _).mem_iff.mp (List.mem_of_getElem? hnmi)
        obtain ⟨kd, hkd, ekn⟩ : ∃ kd ∈ kds, kd.1 = .inr nm := by
          have : Sum.inr nm ∈ kds.map (·.1) := by rw [ek]; exact List.mem_map_of_mem hmk
          obtain ⟨kd, h1, h2⟩ := List.mem_map.mp this
          exact ⟨kd, h1, h2⟩
        have hval := valD_mem hnd hkd
        rw [ekn] at hval
        have hta : tabAt kds nm = kd.2 := by unfold tabAt; rw [hval]; rfl
        have htd : tabD kd.2 = true := by have := hall kd hkd; unfold tabOk at this; rw [Bool.and_eq_true] at this; exact this.2
        obtain ⟨p, r, ekv, hp1, hp2, hseq⟩ := tab_shape htd
        obtain ⟨_, _, hv⟩ := hpre kd hkd
        obtain ⟨_, hxs, hrr⟩ := hv _ ekv
        obtain ⟨hrl, hrp⟩ := hrr _ _ rfl
        rw [ekv] at hval hta
        have hbr : badRow n (placesOf (tabAt kds nm)) (rowsOf (tabAt kds nm)) = badRow n p (itsD r) := by rw [hta]; rfl
        generalize itsD r = xs at hseq hrl hrp hbr
        refine tg_one [.sh (.int n), .sh (.dic kds), .sh (.str nm), s3, s4, s5, s6, s7] rfl ?_
        refine ⟨.inr nm, rfl, ?_⟩
        rw [hval]
        refine tg_tup rfl (tg_pair [.sh (.int n), .sh (.dic kds), .sh (.str nm), s3, .sh (.int p), .sh r, s6, s7] rfl ?_)
        dsimp only
        refine st_forJL (enumL xs) (fun j ρ => (∀ j', j' < j → (rowOk n p (xs.getD j' .non) && !decide (rowOf (xs.getD j' .non) ∈ (xs.take j').map rowOf)) = true) ∧ ∃ s6 s7 : Sl, ρ = [.sh (.int n), .sh (.dic kds), .sh (.str nm), s3, .sh (.int p), .sh r, s6, s7]) ?_ ⟨fun j' hj => absurd hj (Nat.not_lt_zero j'), _, _, rfl⟩ ?_ ?_
        · exact val_enum hseq fun Q E q => q
        · rintro j d hj ρ ⟨hg, s6, s7, rfl⟩ N2 hN2
          obtain ⟨x, hx, rfl⟩ := enum_at hj
          have hjl : j < xs.length := getElem?_lt hx
          have egx := getD_of hx
          obtain ⟨tyx, hxr⟩ := hrp x (List.mem_of_getElem? hx)
          refine tg_tup rfl (tg_pair [.sh (.int n), .sh (.dic kds), .sh (.str nm), s3, .sh (.int p), .sh r, .sh (.int j), .sh x] rfl ?_)
          have raise : ∀ (A' : DEnds), A'.ex = (endsD Q E).ex → (rowOk n p x && !decide (rowOf x ∈ (xs.take j).map rowOf)) = false → dRaise (A "InvalidRow") "InvalidRow" ["table", "at"] (dCons (dVar 2) (dCons (dVar 6) dNil)) A' [.sh (.int n), .sh (.dic kds), .sh (.str nm), s3, .sh (.int p), .sh r, .sh (.int j), .sh x] O := fun A' hA hb => by
            refine val_raise [.str nm, .int j] rfl (fun Q E q => q) ?_
            rw [hA]
            refine qx _ ?_
            rw [X1]
            refine rowsX_at hgood hnmi ?_
            rw [hbr]
            exact find_at hjl (by rw [egx, hb]; rfl) fun j' h' => by rw [hg j' h']; rfl
          have next : (rowOk n p x && !decide (rowOf x ∈ (xs.take j).map rowOf)) = true → N2 [.sh (.int n), .sh (.dic kds), .sh (.str nm), s3, .sh (.int p), .sh r, .sh (.int j), .sh x] O := fun hb => hN2 _ ⟨fun j' h' => by
            rcases Nat.lt_succ_iff_lt_or_eq.mp h' with h' | rfl
            · exact hg j' h'
            · rw [egx]; exact hb, _, _, rfl⟩
          cases x with
          | tup ys =>
            obtain ⟨hyl, hyt⟩ := hxr ys rfl
            have hth : ∀ Q E, Q (isTh ys p n) O → dTest (dCall thS (dCons (dVar 7) (dCons (dVar 4) (dCons (dVar 0) dNil)))) [.sh (.int n), .sh (.dic kds), .sh (.str nm), s3, .sh (.int p), .sh r, .sh (.int j), .sh (.tup ys)] O Q E := val_tst _ (val_call [.tup ys, .int p, .int n] _ (fun Q E q => q) fun Q E q => ⟨.tup ys, ys, p, n, rfl, .inr rfl, hyl, hyt, q⟩)
            cases ht : isTh ys p n with
            | false => exact st_if1 true (val_or2 (val_not true (val_tst _ fun Q E q => ⟨rfl, rfl, q⟩)) (val_or1 (val_not false fun Q E q => hth Q E (by rw [ht]; exact q)))) (bcT (raise _ rfl (by show (isTh ys p n && _) = false; rw [ht]; rfl)))
            | true =>
              obtain ⟨r0, rfl, _⟩ := th_ints ht
              obtain ⟨rs, ers, ero⟩ := rows_rowD (n := n) (p := p) (ys := xs.take j) fun z hz => by
                obtain ⟨j', hj'⟩ := List.getElem?_of_mem hz
                have hlt : j' < j := by have := getElem?_lt hj'; rw [List.length_take] at this; omega
                rw [List.getElem?_take_of_lt hlt] at hj'
                have := hg j' hlt
                rw [getD_of hj', Bool.and_eq_true] at this
                exact this.1
              have hro : (rowOk n p (rowD r0) && !decide (rowOf (rowD r0) ∈ (xs.take j).map rowOf)) = !decide (r0 ∈ rs) := by
                rw [show rowOk n p (rowD r0) = true from ht, ero, rowOf_ints]; rfl
              have hin : ∀ Q E, Q (decide (r0 ∈ rs)) O → dTestB (dOp (pu inLTD) (dVar 7) (dSl (dVar 5) dNoPart (dPart (dVar 6)))) [.sh (.int n), .sh (.dic kds), .sh (.str nm), s3, .sh (.int p), .sh r, .sh (.int j), .sh (rowD r0)] O Q E := by
                rcases hseq with rfl | rfl
                · exact val_tstB _ (val_op (rowD r0) (.lst (xs.take j)) _ (fun Q E q => q) (val_toL xs j (by omega) (fun Q E q => q) (fun Q E q => q)) fun Q q => in_rows (.inl (by rw [ers])) q)
                · exact val_tstB _ (val_op (rowD r0) (.tup (xs.take j)) _ (fun Q E q => q) (val_toT xs j (by omega) (fun Q E q => q) (fun Q E q => q)) fun Q q => in_rows (.inr (by rw [ers])) q)
              by_cases hm : r0 ∈ rs
              · exact st_if1 true (val_or2 (val_not true (val_tst _ fun Q E q => ⟨rfl, rfl, q⟩)) (val_or2 (val_not true fun Q E q => hth Q E (by rw [ht]; exact q)) fun Q E q => hin Q E (by rw [decide_eq_true hm]; exact q))) (bcT (raise _ rfl (by rw [hro, decide_eq_true hm]; rfl)))
              · exact st_if1 false (val_or2 (val_not true (val_tst _ fun Q E q => ⟨rfl, rfl, q⟩)) (val_or2 (val_not true fun Q E q => hth Q E (by rw [ht]; exact q)) fun Q E q => hin Q E (by rw [decide_eq_false hm]; exact q))) (bcF (next (by rw [hro, decide_eq_false hm]; rfl)))
          | opq => cases tyx
          | ins => cases tyx
          | exc => cases tyx
          | lam => cases tyx
          | _ => exact st_if1 true (val_or1 (val_not false (val_tst _ fun Q E q => ⟨rfl, rfl, q⟩))) (bcT (raise _ rfl rfl))
        · rintro ρ ⟨hg, s6, s7, rfl⟩
          refine hN _ ⟨fun m hm => ?_, _, _, _, _, _, _, rfl⟩
          rw [List.take_succ, hnmi] at hm
          rcases List.mem_append.mp hm with hm | hm
          · exact hgood m hm
          · have : m = nm := by simpa using hm
            subst this
            rw [hbr]
            exact find_no fun j' h' => by rw [hg j' (by rw [enum_len]; exact h')]; rfl
      · rintro ρ ⟨hgood, s2, s3, s4, s5, s6, s7, rfl⟩
        rw [List.length_map, List.take_length] at hgood
        exact q (by rw [X1]; exact rowsX_none hgood)
end
end LW
set_option Elab.async false
set_option linter.all false
set_option maxRecDepth 100000
set_option maxHeartbeats 4000000
set_option pp.maxSteps 400
/-! Store.__init__, Store._table, Store.rows_of -/
namespace LW
open PySem PySem.Spec PyProof.Rows L2 EV PySem.XO PySem.W LamX
local macro_rules | `(tactic| walk_at "n") => `(tactic| refine st_norm (by simp only [List.set_cons_succ, List.set_cons_zero]; rfl) ?_)
theorem putKD_new {acc : List (Key × D)} {k : Key} {z : D} (h : k ∉ acc.map (·.1)) : putKD acc k z = acc ++ [(k, z)] := by
  unfold putKD
  rw [if_neg]
  intro e
  obtain ⟨kd, h1, h2⟩ := List.any_eq_true.mp e
  exact h (by rw [← of_decide_eq_true h2]; exact List.mem_map_of_mem h1)
theorem dcW_map {I : Ow → Prop} {g : DG} {tk te : DE} {ρ : Slots} {O : Ow} (hI : I O) (kf : D → Key) (vf : D → D) {Q : List (Key × D) → Ow → Prop} : ∀ {ds : List D} {acc : List (Key × D)}, (ds.map kf).Nodup → (∀ d ∈ ds, kf d ∉ acc.map (·.1)) → acc.length + ds.length ≤ 1000 →
    (∀ d ∈ ds, ∀ Qz : D → D → Ow → Prop, Qz (kD (kf d)) (vf d) O → g d ρ fun ρ' => tk ρ' O (fun y O2 => te ρ' O2 (fun z O3 => Qz y z O3) (fun _ _ => False)) (fun _ _ => False)) →
    Q (acc ++ ds.map fun d => (kf d, vf d)) O → dcW I g dYes tk te ρ ds acc O Q
  | [], acc, _, _, _, _, q => ⟨hI, by simpa using q⟩
  | d :: ds, acc, hn, ha, hl, he, q => by
    rw [List.map_cons, List.nodup_cons] at hn
    rw [List.length_cons] at hl
    refine ⟨hI, he d (by simp) (fun y z O3 => ∃ k, y = kD k ∧ acc.length < sizeLine ∧ dcW I g dYes tk te ρ ds (putKD acc k z) O3 Q) ⟨kf d, rfl, Nat.lt_of_lt_of_le (show acc.length < 1000 by omega) (by decide), ?_⟩⟩
    rw [putKD_new (ha d (by simp))]
    refine dcW_map hI kf vf hn.2 (fun e he' hm => ?_) (by rw [List.length_append, List.length_singleton]; omega) (fun e h => he e (List.mem_cons_of_mem _ h)) (by simpa [List.append_assoc] using q)
    rw [List.map_append] at hm
    rcases List.mem_append.mp hm with hm | hm
    · exact ha e (List.mem_cons_of_mem _ he') hm
    · have e2 : kf e = kf d := by simpa using hm
      exact hn.1 (by rw [← e2]; exact List.mem_map_of_mem he')
abbrev s_Store_init : Stmt := clsS 31 1
abbrev N_Store_init : List Str := ["self", "size", "tables", "name"]
theorem sc_Store_init : FnScope N_Store_init ["self", "size", "tables"] (defScope s_Store_init) := ⟨rfl, rfl, rfl, by decide +kernel, rfl, by decide +kernel, by decide +kernel⟩
abbrev s_Store_table : Stmt := clsS 31 3
abbrev N_Store_table : List Str := ["self", "name"]
theorem sc_Store_table : FnScope N_Store_table ["self", "name"] (defScope s_Store_table) := ⟨rfl, rfl, rfl, by decide +kernel, rfl, by decide +kernel, by decide +kernel⟩
def numberX (A : Str → Addr) (d : D) : Xc := (A "InvalidNumber", errD "InvalidNumber" ["given"] [d])
def unknownX (A : Str → Addr) (d : D) : Xc := (A "UnknownTable", errD "UnknownTable" ["name"] [d])
def stX (A : Str → Addr) (sz : D) (kds : List (Key × D)) : Option Xc := match sz with
  | .int n => if isNum sz 1 8 then tabX A n kds else some (numberX A sz)
  | _ => some (numberX A sz)
/-- a table, as a store keeps it -/
def keptT (kds : List (Key × D)) (nm : Str) : D := .tup [.int (placesOf (tabAt kds nm)), .lst ((srtI ((rowsOf (tabAt kds nm)).map rowOf)).map rowD)]
def stT (kds : List (Key × D)) : List (Key × D) := (srtS (keysS kds)).map fun nm => (.inr nm, keptT kds nm)
def stF (n : Int) (kds : List (Key × D)) : List (Str × D) := [("size", .int n), ("_tables", .dic (stT kds))]
def Few (kds : List (Key × D)) : Prop := ∀ kd ∈ kds, (rowsOf kd.2).length < 64 ∨ (placesOf kd.2 = 2 ∧ (rowsOf kd.2).length ≤ 64)
def iniST (A : Str → Addr) (C : Addr) : DSp := fun ds O Q E => ∃ (p : Addr) (sz : D) (kds : List (Key × D)), ds = [.opq (.ref p), sz, .dic kds] ∧ O p = some (.ins C []) ∧ (tyD sz).isSome = true ∧ (kds.map (·.1)).Nodup ∧ kds.length ≤ 60 ∧ TabPre kds ∧ Few kds ∧
  (∀ n, sz = .int n → stX A sz kds = none → Q .non (oset O p (.ins C (stF n kds)))) ∧ ∀ x, stX A sz kds = some x → E x O
def tblS (A : Str → Addr) (C : Addr) : DSp := fun ds O Q E => ∃ (fs : List (Str × D)) (kds : List (Key × D)) (nm : D), ds = [.ins C fs, nm] ∧ fs.lookup ("_tables" : Str) = some (.dic kds) ∧ (tyD nm).isSome = true ∧ (∀ x t, nm = .str x → valD kds (.inr x) = some t → Q t O) ∧ ((∀ x t, nm = .str x → valD kds (.inr x) ≠ some t) → E (unknownX A nm) O)
theorem rowsX_of {A : Str → Addr} {n : Int} {kds : List (Key × D)} : ∀ {l : List Str}, rowsX A n kds l = none → ∀ nm ∈ l, badRow n (placesOf (tabAt kds nm)) (rowsOf (tabAt kds nm)) = none
  | [], _, _, h => by cases h
  | a :: l, hx, nm, h => by
    unfold rowsX at hx
    cases hb : badRow n (placesOf (tabAt kds a)) (rowsOf (tabAt kds a)) with
    | some i => rw [hb] at hx; cases hx
    | none =>
      rw [hb] at hx
      rcases List.mem_cons.mp h with rfl | h
      · exact hb
      · exact rowsX_of hx nm h
theorem badRow_none {n p : Int} {xs : List D} (h : badRow n p xs = none) : ∀ x ∈ xs, rowOk n p x = true := by
  intro x hx
  obtain ⟨j, hj⟩ := List.getElem?_of_mem hx
  have := List.find?_eq_none.mp h j (List.mem_range.mpr (getElem?_lt hj))
  rw [getD_of hj] at this
  simp only [Bool.not_eq_true, Bool.not_eq_false', Bool.and_eq_true] at this
  exact this.1
theorem tabX_ok {A : Str → Addr} {n : Int} {kds : List (Key × D)} (h : tabX A n kds = none) : kds.length ≤ 4 ∧ (∀ kd ∈ kds, tabOk kd = true) ∧ ∀ nm ∈ keysS kds, badRow n (placesOf (tabAt kds nm)) (rowsOf (tabAt kds nm)) = none := by
  unfold tabX at h
  split at h
  · cases h
  · rename_i h4
    cases e : kds.find? fun kd => !tabOk kd with
    | some kd => rw [e] at h; cases h
    | none =>
      rw [e] at h
      refine ⟨by omega, fun kd hk => ?_, fun nm hm => rowsX_of h nm ((srtS_perm _).mem_iff.mpr hm)⟩
      have := List.find?_eq_none.mp e kd hk
      simpa using this
section
variable {P : Program} {w : World} {K : PySem.W.Frag} {mg : Str → Option Value} {base : Heap}
theorem ok_Store_init {f fM fT C : Addr} {fd fdM fdT : FuncData} {A : Str → Addr} {uM : Value} (F : Fun K "__init__" "Store.__init__" s_Store_init f fd)
    (G_is_number : FnOk P w K mg base CX0 1 fM fdM ["value", "least", "most"] (spD K numS)) (T_is_number : Gf K mg "is_number" fM fdM ["value", "least", "most"])
    (G_check_tables : FnOk P w K mg base (L2.CX P w) 4 fT fdT ["size", "tables"] (spD K (chkTS A))) (T_check_tables : Gf K mg "check_tables" fT fdT ["size", "tables"])
    (m_list : mg "list" = none) (m_sorted : mg "sorted" = none)
    (E_InvalidNumber : Err P w K mg base 2 (A "InvalidNumber") "InvalidNumber" ["given"]) (M_InvalidNumber : mg "InvalidNumber" = some (.ref (A "InvalidNumber")))
    (CL_Store : Cls K C) (CON_Store_MOST : Con K C "MOST" (.int 8) uM) (NA_Store_size : NoAttr K C "size") (NA_Store__tables : NoAttr K C "_tables") :
    FnOk P w K mg base (L2.CX P w) 5 f fd ["self", "size", "tables"] (spD K (iniST A C)) := by
  refine fn_excF F sc_Store_init (fun ds O Q E h => ?_) (fun cdv A outer s H E hr tk =>
    (d_scons (d_ifS (d_tnot (d_test (d_call G_is_number (hr.mono (by decide)) rfl T_is_number.m T_is_number.k T_is_number.b (fun _ => pass0A) (d_cons (d_var (i := 1) rfl (.inl rfl) (by decide) (by decide)) (d_cons d_int (d_cons (d_con CL_Store CON_Store_MOST (fun _ => .int 8) (d_var (i := 0) rfl (.inl rfl) (by decide) (by decide)) rfl) d_nil rfl) rfl) rfl) (by decide) rfl rfl) (by intro _; rfl))) (d_sone (d_raise rfl tk E_InvalidNumber (hr.mono (by decide)) rfl M_InvalidNumber (d_cons (d_var (i := 1) rfl (.inl rfl) (by decide) (by decide)) d_nil rfl) (by decide) rfl rfl)) d_snil)
      (d_scons (d_expr (d_call G_check_tables (hr.mono (by decide)) rfl T_check_tables.m T_check_tables.k T_check_tables.b (fun σ => tk_pass tk σ) (d_cons (d_var (i := 1) rfl (.inl rfl) (by decide) (by decide)) (d_cons (d_var (i := 2) rfl (.inr (.inl rfl)) (by decide) (by decide)) d_nil rfl) rfl) (by decide) rfl rfl) rfl)
      (d_scons (d_setF CL_Store NA_Store_size (d_var (i := 0) rfl (.inl rfl) (by decide) (by decide)) (d_var (i := 1) rfl (.inl rfl) (by decide) (by decide)) rfl)
      (d_sone (d_setF CL_Store NA_Store__tables (d_var (i := 0) rfl (.inl rfl) (by decide) (by decide)) (d_frz (d_dcO rfl sc_Store_init.nd (d_iter (d_callB (cd_sortS rfl) rfl m_sorted boot_sorted (d_cons (d_callTy (cd_listK rfl) rfl m_list boot_list (d_cons (d_var (i := 2) rfl (.inr (.inl rfl)) (by decide) (by decide)) d_nil rfl) (by decide) (by decide) rfl rfl) d_nil rfl) (by decide) (by decide) rfl rfl)) (blkOk_by (own := [("name", 3)]) (N := N_Store_init) (sc := defScope s_Store_init) (by decide +kernel)) (fun _ _ _ _ _ => (dg_name (i := 3) sc_Store_init.nd rfl (.inl rfl) (.inr rfl))) (fun _ _ _ _ _ => d_ifs0) (fun _ _ _ _ _ => (d_var (i := 3) rfl (.inl rfl) (by decide) (by decide))) (fun _ _ _ _ _ => (d_tup (d_cons (d_ix (d_dget (hud hr) (d_var (i := 2) rfl (.inr (.inl rfl)) (by decide) (by decide)) (d_var (i := 3) rfl (.inl rfl) (by decide) (by decide)) (fun _ _ => rfl)) d_int (fun _ _ => rfl)) (d_cons (d_callB cd_sortI rfl m_sorted boot_sorted (d_cons (d_ix (d_dget (hud hr) (d_var (i := 2) rfl (.inr (.inl rfl)) (by decide) (by decide)) (d_var (i := 3) rfl (.inl rfl) (by decide) (by decide)) (fun _ _ => rfl)) d_int (fun _ _ => rfl)) d_nil rfl) (by decide) (by decide) rfl rfl) d_nil rfl) rfl))) (by decide +kernel) (fun _ => rfl))) rfl)))))) (fun ds O Q E h => ?_)
  · obtain ⟨p, sz, kds, rfl, _⟩ := h; rfl
  · obtain ⟨p, sz, kds, rfl, ho, tys, hnd, hk60, hpre, hfew, q, qx⟩ := h
    rw [show startD N_Store_init [.opq (.ref p), sz, .dic kds] = [.sh (.opq (.ref p)), .sh sz, .sh (.dic kds), .un] from rfl]
    have hnum : ∀ Q E, Q (!isNum sz 1 8) O → dNot (dTest (dCall numS (dCons (dVar 1) (dCons (dC (.int 1)) (dCons (dCon C "MOST" (.int 8) (dVar 0)) dNil))))) [.sh (.opq (.ref p)), .sh sz, .sh (.dic kds), .un] O Q E := val_not _ (val_tst _ (val_call [sz, .int 1, .int 8] _ (val_cons _ _ (fun Q E q => q) (val_cons _ _ (fun Q E q => q) (val_cons _ _ (fun Q E q => ⟨by rw [lk_of ho]; exact ⟨rfl, rfl⟩, q⟩) val_nil))) fun Q E q => ⟨sz, 1, 8, rfl, tys, q⟩))
    refine st_if (!isNum sz 1 8) hnum ?_
    cases hn : isNum sz 1 8 with
    | false => exact bcT (val_raise [sz] rfl (fun Q E q => q) (frg.of (qx _ (by cases sz <;> first | rfl | (show (if isNum _ 1 8 then _ else _) = _; rw [hn]; rfl)))))
    | true =>
    refine bcN ?_
    dsimp only
    obtain ⟨n, rfl, n1, n8⟩ := num_int hn
    have X0 : stX A (.int n) kds = tabX A n kds := by show (if isNum _ 1 8 then _ else _) = _; rw [hn]; rfl
    refine spM.of ⟨n, kds, rfl, n8, hnd, hk60, hpre, fun h0 => ?_, fun x hx => frg.of (qx x (by rw [X0]; exact hx))⟩
    dsimp only
    obtain ⟨h4, hall, hbr⟩ := tabX_ok h0
    obtain ⟨ek, hks⟩ := keys_strs hall
    have hkl : (keysS kds).length = kds.length := by
      have := congrArg List.length ek
      rw [List.length_map, List.length_map] at this
      exact this.symm
    have ekd : (kds.map fun kd => kD kd.1) = (keysS kds).map D.str := by
      have e : (kds.map fun kd => kD kd.1) = (kds.map (·.1)).map kD := by rw [List.map_map]; rfl
      rw [e, ek, List.map_map]; rfl
    have hkn : (keysS kds).Nodup := by
      have : ((keysS kds).map (Sum.inr : Str → Key)).Nodup := by rw [← ek]; exact hnd
      exact (List.pairwise_map.mp this).imp fun h e => h (by rw [e])
    refine st_fld p (.int n) [] (fun Q E q => q) (fun Q E q => q) ho (by decide) ?_
    refine st_fld1 p (.dic (stT kds)) [("size", .int n)] (fun Q' E' q' => ?_) (fun Q E q => q) oset_same (Nat.lt_of_lt_of_le (show 1 < 2 by decide) (by decide)) ?_
    · refine ⟨keysS kds, ekd, by omega, ?_⟩
      refine dcW_map (I := tt1) trivial (fun d => match d with
        | .str x => .inr x
        | _ => .inl 0) (fun d => match d with
        | .str x => keptT kds x
        | _ => .non) ?_ (fun _ _ h => by simp at h) ?_ (fun d hd Qz hz => ?_) ?_
      · rw [List.map_map]
        refine List.pairwise_map.mpr (((srtS_perm _).nodup_iff.mpr hkn).imp fun h e => h ?_)
        simpa using e
      · rw [List.length_map, (srtS_perm _).length_eq]; simp; omega
      · obtain ⟨nm, hm, rfl⟩ := List.mem_map.mp hd
        have hm := (srtS_perm _).mem_iff.mp hm
        obtain ⟨kd, hkd, ekn⟩ : ∃ kd ∈ kds, kd.1 = .inr nm := by
          have : Sum.inr nm ∈ kds.map (·.1) := by rw [ek]; exact List.mem_map_of_mem hm
          obtain ⟨kd, h1, h2⟩ := List.mem_map.mp this
          exact ⟨kd, h1, h2⟩
        have hval := valD_mem hnd hkd
        rw [ekn] at hval
        have hta : tabAt kds nm = kd.2 := by unfold tabAt; rw [hval]; rfl
        have htd : tabD kd.2 = true := by have := hall kd hkd; unfold tabOk at this; rw [Bool.and_eq_true] at this; exact this.2
        obtain ⟨pl, r, ekv, hp1, hp2, hseq⟩ := tab_shape htd
        have hf6 := hfew kd hkd
        have hb := hbr nm hm
        have hz : Qz (.str nm) (keptT kds nm) _ := hz
        unfold keptT at hz
        rw [ekv] at hval hta hf6
        rw [hta] at hb hz
        have hb : badRow n pl (itsD r) = none := hb
        have hf6 : (itsD r).length < 64 ∨ (pl = 2 ∧ (itsD r).length ≤ 64) := hf6
        have hz : Qz (.str nm) (.tup [.int pl, .lst ((srtI ((itsD r).map rowOf)).map rowD)]) _ := hz
        have hrok := badRow_none hb
        obtain ⟨rs, ers, ero⟩ := rows_rowD hrok
        rw [ero] at hz
        refine tg_one [.sh (.opq (.ref p)), .sh (.int n), .sh (.dic kds), .sh (.str nm)] rfl ?_
        have hget : ∀ (Q : QD) (E : QX), Q (.tup [.int pl, r]) (oset O p (.ins C (putD "size" (.int n) []))) → dDGet (dVar 2) (dVar 3) [.sh (.opq (.ref p)), .sh (.int n), .sh (.dic kds), .sh (.str nm)] (oset O p (.ins C (putD "size" (.int n) []))) Q E := fun Q E q => ⟨.inr nm, rfl, by rw [hval]; exact q⟩
        refine val_tup [.int pl, .lst ((srtI rs).map rowD)] (val_cons _ _ (val_ix (.inr rfl) hget (fun Q E q => q) ax0) (val_cons _ _ (fun Q E q => ?_) val_nil)) (le_sz rfl) _ _ hz
        refine val_ix (.inr rfl) hget (fun Q E q => q) ax1 _ _ ?_
        refine ⟨pl.toNat, 8, by omega, itsD r, rs, ?_, ers, ?_, fun r0 h0 => ?_, q⟩
        · rcases hseq with h | h
          · left; rw [h]; rfl
          · right; rw [h]; rfl
        · rw [ers, List.length_map] at hf6
          rcases hf6 with h | ⟨h, h2⟩
          · exact .inl h
          · exact .inr ⟨by omega, h2⟩
        · have hrow := hrok (rowD r0) (by rw [ers]; exact List.mem_map_of_mem h0)
          obtain ⟨r1, e1, e2, e3⟩ := th_ints (show isTh (r0.map D.int) pl n = true from hrow)
          have e4 : r0 = r1 := by
            have := congrArg (fun l => rowOf (.tup l)) e1
            rwa [rowOf_ints, rowOf_ints] at this
          subst e4
          exact ⟨by omega, fun m hm => ⟨(e3 m hm).1, by have := (e3 m hm).2; omega⟩⟩
      · intro p2 np2
        refine ⟨p2, _, rfl, oset_same, ?_⟩
        rw [odel_oset np2]
        refine cast (congrArg (fun z => Q' (.dic z) _) ?_) q'
        unfold stT
        rw [List.nil_append, List.map_map]; rfl
    · rw [oset_oset]
      exact frg.of (q n rfl (by rw [X0]; exact h0))
theorem ok_Store_table {f C : Addr} {fd : FuncData} {A : Str → Addr} (F : Fun K "_table" "Store._table" s_Store_table f fd) (m_isinstance : mg "isinstance" = none) (m_str : mg "str" = none)
    (E_UnknownTable : Err P w K mg base 2 (A "UnknownTable") "UnknownTable" ["name"]) (M_UnknownTable : mg "UnknownTable" = some (.ref (A "UnknownTable")))
    (CL_Store : Cls K C) (NA_Store__tables : NoAttr K C "_tables") :
    FnOk P w K mg base (L2.CX P w) 4 f fd ["self", "name"] (spD K (tblS A C)) := by
  refine fn_exc F sc_Store_table (fun ds O Q E h => ?_) (fun cdv A outer s H E hr tk =>
    (d_scons (d_ifS (DPW.pt (d_wor (d_tnot (d_test (d_callB cd_isi rfl m_isinstance boot_isinstance (d_cons (d_var (i := 1) rfl (.inl rfl) (by decide) (by decide)) (d_cons (d_ty rfl m_str boot_str (by decide) (by decide)) d_nil rfl) rfl) (by decide) (by decide) rfl rfl) (by intro _; rfl))) (d_or1 (d_tcmp (od_notinDic (hud hr)) (d_var (i := 1) rfl (.inl rfl) (by decide) (by decide)) (d_fld CL_Store NA_Store__tables (d_var (i := 0) rfl (.inl rfl) (by decide) (by decide)) rfl) rfl)))) (d_sone (d_raise rfl tk E_UnknownTable (hr.mono (by decide)) rfl M_UnknownTable (d_cons (d_var (i := 1) rfl (.inl rfl) (by decide) (by decide)) d_nil rfl) (by decide) rfl rfl)) d_snil)
      (d_sone (d_ret (d_dget (hud hr) (d_fld CL_Store NA_Store__tables (d_var (i := 0) rfl (.inl rfl) (by decide) (by decide)) rfl) (d_var (i := 1) rfl (.inl rfl) (by decide) (by decide)) (fun _ _ => rfl)))))) (fun ds O Q E h => ?_)
  · obtain ⟨fs, kds, nm, rfl, _⟩ := h; rfl
  · obtain ⟨fs, kds, nm, rfl, hf, tyn, q, qx⟩ := h
    rw [show startD N_Store_table [.ins C fs, nm] = [.sh (.ins C fs), .sh nm] from rfl]
    have hT : ∀ Q E, Q (.dic kds) O → dFld C "_tables" (dVar 0) [.sh (.ins C fs), .sh nm] O Q E := val_fld (fun Q E q => q) hf
    have bad : (∀ x t, nm = .str x → valD kds (.inr x) ≠ some t) → ∀ A' : DEnds, A'.ex = (endsD Q E).ex → dRaise (A "UnknownTable") "UnknownTable" ["name"] (dCons (dVar 1) dNil) A' [.sh (.ins C fs), .sh nm] O := fun h A' hA => val_raise [nm] rfl (fun Q E q => q) (by rw [hA]; exact qx h)
    by_cases hs : ∃ x, nm = .str x
    · obtain ⟨x, rfl⟩ := hs
      have hin : ∀ Q E, Q (!(valD kds (.inr x)).isSome) O → dTestB (dOp (inDic not) (dVar 1) (dFld C "_tables" (dVar 0))) [.sh (.ins C fs), .sh (.str x)] O Q E := val_tstB _ (val_op (.str x) (.dic kds) _ (fun Q E q => q) hT fun Q q => ⟨.inr x, rfl, q⟩)
      cases hv : valD kds (.inr x) with
      | none => exact st_if true (val_or2 (val_not true (val_tst _ fun Q E q => ⟨rfl, rfl, q⟩)) fun Q E q => hin Q E (by rw [hv]; exact q)) (bcT (bad (fun y t e => by cases e; rw [hv]; intro z; cases z) _ rfl))
      | some t =>
        refine st_if false (val_or2 (val_not true (val_tst _ fun Q E q => ⟨rfl, rfl, q⟩)) fun Q E q => hin Q E (by rw [hv]; exact q)) (bcN ?_)
        dsimp only
        refine val_retX (hT _ _ ⟨.inr x, rfl, ?_⟩)
        rw [show valD kds (.inr x) = some t from hv]
        exact q x t rfl hv
    · have hno : ∀ x, nm ≠ .str x := fun x e => hs ⟨x, e⟩
      have hisi : isiB nm "str" = false := by cases nm <;> first | rfl | exact absurd rfl (hno _) | cases tyn
      exact st_if true (val_or1 (val_not false (val_tst _ fun Q E q => ⟨rfl, tyn, by rw [hisi]; exact q⟩))) (bcT (bad (fun x t e => absurd e (hno x)) _ rfl))
end
end LW
set_option Elab.async false
set_option linter.all false
set_option maxRecDepth 100000
set_option maxHeartbeats 4000000
set_option pp.maxSteps 400
/-! k03: plain facts -/
namespace LW
open PySem PySem.Spec PyProof.Rows L2 EV PySem.XO PySem.W LamX
theorem row_ok {n p : Nat} {r : List Int} (h : isRow n p r = true) : rowOk n p (rowD r) = true := by
  unfold isRow at h
  rw [Bool.and_eq_true, decide_eq_true_eq, List.all_eq_true] at h
  show isTh (r.map D.int) p n = true
  unfold isTh
  rw [Bool.and_eq_true, decide_eq_true_eq, List.all_eq_true, List.length_map]
  refine ⟨by rw [h.1], fun x hx => ?_⟩
  obtain ⟨m, hm, rfl⟩ := List.mem_map.mp hx
  have := h.2 m hm
  rw [Bool.and_eq_true, decide_eq_true_eq, decide_eq_true_eq] at this
  show (decide (0 ≤ m) && decide (m ≤ (n : Int) - 1)) = true
  rw [decide_eq_true this.1, decide_eq_true (by omega)]; rfl
theorem getD_pre {rs : List (List Int)} {rest : List D} {j : Nat} (h : j < rs.length) : (rs.map rowD ++ rest).getD j .non = rowD (rs[j]) := by
  have : (rs.map rowD ++ rest)[j]? = some (rowD rs[j]) := by
    rw [List.getElem?_append_left (by rw [List.length_map]; exact h), List.getElem?_map, List.getElem?_eq_getElem h]; rfl
  exact getD_of this
theorem good_at {n p : Int} {rs : List (List Int)} {rest : List D} (hr : ∀ r ∈ rs, rowOk n p (rowD r) = true) (hn : rs.Nodup) {j : Nat} (h : j < rs.length) : (!(rowOk n p ((rs.map rowD ++ rest).getD j .non) && !decide (rowOf ((rs.map rowD ++ rest).getD j .non) ∈ ((rs.map rowD ++ rest).take j).map rowOf))) = false := by
  rw [getD_pre h, hr _ (List.getElem_mem h), rowOf_ints]
  have e : ((rs.map rowD ++ rest).take j).map rowOf = rs.take j := by
    rw [List.take_append_of_le_length (by rw [List.length_map]; omega), ← List.map_take, List.map_map]
    have : (rowOf ∘ rowD) = id := by funext r; exact rowOf_ints r
    rw [this, List.map_id]
  rw [e]
  have : rs[j] ∉ rs.take j := fun hm => by
    obtain ⟨i, hi⟩ := List.getElem?_of_mem hm
    have hij : i < j := by have := getElem?_lt hi; rw [List.length_take] at this; omega
    rw [List.getElem?_take_of_lt hij, List.getElem?_eq_getElem (by omega)] at hi
    exact List.pairwise_iff_getElem.mp hn i j (by omega) h hij (by simpa using hi)
  rw [decide_eq_false this]; rfl
theorem badRow_good {n p : Int} {rs : List (List Int)} (hr : ∀ r ∈ rs, rowOk n p (rowD r) = true) (hn : rs.Nodup) : badRow n p (rs.map rowD) = none := by
  refine find_no fun j hj => ?_
  rw [List.length_map] at hj
  have := good_at (rest := []) hr hn hj
  rwa [List.append_nil] at this
def two (w0 w1 : Str) (p : Int) (r : D) : List (Key × D) := [(.inr w0, .tup [.int p, r]), (.inr w1, .tup [.int 1, .lst [rowD [0]]])]
theorem isNum12 {p : Nat} (hp : p < 2) : isNum (.int (p + 1 : Nat)) 1 2 = true := by
  show (decide ((1 : Int) ≤ (p + 1 : Nat)) && decide (((p + 1 : Nat) : Int) ≤ 2)) = true
  rw [decide_eq_true (by omega), decide_eq_true (by omega)]; rfl
/-! ### what is wrong -/
theorem rowPre_row {r : List Int} (h : r.length ≤ 1000) : RowPre (rowD r) := ⟨rfl, fun xs e => by
  cases e
  refine ⟨by rw [List.length_map]; exact h, fun x hx => ?_⟩
  obtain ⟨i, _, rfl⟩ := List.mem_map.mp hx
  rfl⟩
theorem tabPre_one {k : Key} {kds : List (Key × D)} {p : Int} {r : D} (hk : Flat (kD k)) (hr : (tyD r).isSome = true) (hl : (itsD r).length ≤ 1000) (hx : ∀ x ∈ itsD r, RowPre x) (h : TabPre kds) : TabPre ((k, .tup [.int p, r]) :: kds) := fun kd hm => by
  rcases List.mem_cons.mp hm with rfl | hm
  · refine ⟨hk, rfl, fun xs e => ?_⟩
    cases e
    refine ⟨show 2 ≤ 1000 by decide, fun x hx => ?_, fun p' r' e => ?_⟩
    · simp only [List.mem_cons, List.not_mem_nil, or_false] at hx
      rcases hx with rfl | rfl
      · rfl
      · exact hr
    · injection e with e1 e2
      injection e2 with e2 e3
      subst e2
      exact ⟨hl, hx⟩
  · exact h kd hm
theorem mkG_st {A : Str → Addr} {C : Addr} {O : Ow} {Q : QD} {E : QX} {n : Int} {kds : List (Key × D)} (h1 : (kds.map (·.1)).Nodup) (h2 : kds.length ≤ 60) (h3 : TabPre kds) (h4 : Few kds) (q : stX A (.int n) kds = none → Q (.ins C (stF n kds)) O) (e : ∀ x, stX A (.int n) kds = some x → E x O) : mkG C (iniST A C) [.int n, .dic kds] O Q E := fun p np =>
  spM.of ⟨p, .int n, kds, rfl, oset_same, rfl, h1, h2, h3, h4, fun m hm h0 => by cases hm; exact ⟨rfl, _, _, oset_same, by rw [oset_oset, odel_oset np]; exact q h0⟩, fun x hx => ⟨O, OSub.new np, e x hx⟩⟩
theorem stX_in {A : Str → Addr} {n : Nat} (h1 : 1 ≤ n) (h8 : n ≤ 8) (kds : List (Key × D)) : stX A (.int n) kds = tabX A n kds := by
  have : isNum (.int n) 1 8 = true := by
    show (decide ((1 : Int) ≤ (n : Nat)) && decide (((n : Nat) : Int) ≤ 8)) = true
    rw [decide_eq_true (by omega), decide_eq_true (by omega)]; rfl
  show (if isNum (.int n) 1 8 = true then _ else _) = _
  rw [this]; rfl
abbrev psS : List Str := ["self", "size", "tables"]
theorem GD_Store_ : ∀ (K : PySem.W.Frag) (G : Hp) (v : V) (vs zs : List V) (ds es : List D), RpL K G vs ds → RpL K G zs es → vs.length = 2 → zs.length = ([] : List Str).length → ∃ ws, (v :: vs) = v :: ws ∧ RpL K G ws ds := fun K G v vs zs ds es r1 r2 _ _ => ⟨vs, rfl, r1⟩
end LW
set_option Elab.async false
set_option linter.all false
set_option maxRecDepth 100000
set_option maxHeartbeats 4000000
/-! a == b by the text's own __eq__ -/
namespace EV
open PySem PySem.Spec PyProof.Rows L2
end EV
set_option Elab.async false
set_option linter.all false
set_option maxRecDepth 100000
set_option maxHeartbeats 4000000
/-! def f(a, .., *v): called as o.m(a, .., x, ..) -/
namespace EV
open PySem PySem.Spec PyProof.Rows L2
end EV
set_option Elab.async false
set_option linter.all false
set_option maxRecDepth 100000
set_option maxHeartbeats 4000000
/-! one's own dict is shown while an expression runs that gives a plain value, and is one's own again behind it -/
namespace EV
open PySem PySem.Spec PyProof.Rows L2
end EV
set_option Elab.async false
set_option linter.all false
set_option maxRecDepth 100000
set_option maxHeartbeats 4000000
/-! the pairs of a dict put into another one, as a display does with **d -/
namespace PySem
open Sem (wp)
section
variable {prog : Program} {w : World} {K : Type} [DecidableEq K] {knd : KeyKind prog w K} {A : Around} {E : Value → Shared → Prop} {s : Shared}
theorem wpAny_dictPut_pairs {d : Addr} {kvs : List (K × Value)} {k : K} {key v : Value} {Q : Unit → Shared → Prop} (hkey : knd.is k key = true) (hm : s.heap.DictOf knd d kvs)
    (hQ : ∀ h', h'.DictOf knd d (stored kvs k v) → Heap.SameBut d s.heap h' → Q () { s with heap := h' })
    (hsz : kvs.length ≤ sizeLine := by size_fits) :
    wpAny (model prog w) A (dictPut d (knd.hash k) key v) Q E s := by
  obtain ⟨o, es, ep, ho, hc, hd, hk, hp, hn⟩ := hm
  have hes : es.size ≤ sizeLine := by have e1 := hp.length; have e2 : es.toList.length = es.size := by simp
                                      omega
  unfold dictPut
  try with_reducible refine wpAny_holding ?_
  refine wpAny_bind (wpAny_dictFind_of hkey ho hd hk ?_)
  have hidx : (es.findIdx? fun e => knd.is k e.key) = kvs.findIdx? fun kv => decide (kv.1 = k) := by
    rw [← hp.findIdx k]; obtain ⟨l⟩ := es; simp
  cases hi : es.findIdx? fun e => knd.is k e.key with
  | some i =>
    refine (wpAny_updateDict ho hd ((hQ _ ⟨_, _, ep, Heap.get?_update_self _ ho (Obj.isFreed_of_dict (Obj.data_mapDict hd _)),
      hc.mapDict _, Obj.data_mapDict hd _, hk.modify _ _, ?_, ?_⟩ (Heap.SameBut.update ..))))
    · rw [stored, if_pos (any_of_findIdx_some (hidx ▸ hi))]
      have hl : (es.toList.findIdx? fun e => knd.is k e.key) = some i := by rw [← hi]; obtain ⟨l⟩ := es; simp
      have := hp.modify hn hl v
      obtain ⟨l⟩ := es
      simpa using this
    · rw [stored, if_pos (any_of_findIdx_some (hidx ▸ hi)), keys_map_store]; exact hn
  | none =>
    have hnot : k ∉ kvs.map (·.1) := not_mem_of_findIdx_none (hidx ▸ hi)
    have hany : ¬ (kvs.any fun kv => decide (kv.1 = k)) = true := by
      rw [List.any_eq_true]; rintro ⟨kv, hkv, he⟩
      exact hnot (List.mem_map.mpr ⟨kv, hkv, of_decide_eq_true he⟩)
    refine (wpAny_updateDictKeys (hz := hes) ho hd (hQ _ ⟨_, _, ep + 1, Heap.get?_update_self _ ho (Obj.isFreed_of_dict (Obj.data_mapDictKeys hd _)),
      hc.mapDictKeys _, Obj.data_mapDictKeys hd _, hk.push hkey _, ?_, ?_⟩ (Heap.SameBut.update ..)))
    · rw [stored, if_neg hany]
      have := hp.append hkey (knd.hash k) v
      obtain ⟨l⟩ := es
      simpa using this
    · rw [stored, if_neg hany, List.map_append, List.nodup_append]
      refine ⟨hn, by simp, ?_⟩
      intro a ha b hb
      simp only [List.map_cons, List.map_nil, List.mem_singleton] at hb
      subst hb
      exact fun e => hnot (e ▸ ha)
theorem wpAny_mergeMap {d o : Addr} {kvs more : List (K × Value)} {Q : Unit → Shared → Prop} (hdo : d ≠ o) (hoS : (o == sysModules) = false)
    (hd : s.heap.DictOf knd d kvs) (ho : s.heap.DictOf knd o more)
    (hQ : ∀ h', h'.DictOf knd d (merged kvs more) → h'.DictOf knd o more → Heap.SameBut d s.heap h' → Q () { s with heap := h' })
    (hsz : kvs.length + more.length ≤ sizeLine := by size_fits) :
    wpAny (model prog w) A (mergeMapping d (.ref o) false) Q E s := by
  obtain ⟨od, esd, epd, hod, hcd, hdd, hkd, hpd, hnd⟩ := id hd
  obtain ⟨oo, eso, epo, hoo, hco, hdo', hko, hpo, hno⟩ := id ho
  unfold mergeMapping
  have hlen : more.length = eso.size := by rw [← hpo.length]; simp
  have loop : ∀ (g : Unit → Sem PUnit), True → wpAny (model prog w) A (do
      let l ← dictEntries o
      let epoch ← dictEpoch o
      forIn (List.range l.size) PUnit.unit fun i (_ : PUnit) => (do
          let l' ← dictEntries o
          match l'[i]? with
            | some e => do
              holding [e.key, e.val] (dictPut d e.hash e.key e.val)
              let ep' ← dictEpoch o
              if (ep' != epoch) = true then do
                  (unsupported "dict.changed-during-merge" : Sem PUnit)
                  pure (ForInStep.yield PUnit.unit)
                else pure (ForInStep.yield PUnit.unit)
            | _ => do
              (unsupported "dict.changed-during-merge" : Sem PUnit)
              pure (ForInStep.yield PUnit.unit) : Sem (ForInStep PUnit))
      pure ()) Q E s := by
    intro g _
    refine wpAny_bind (wpAny_dictEntries hoo hdo' ?_)
    refine wpAny_bind (wpAny_dictEpoch hoo hdo' ?_)
    refine wpAny_bind ?_
    rw [List.range_eq_range']
    refine wpAny_forIn_list _
      (fun rest _ s' => ∃ h' i, s' = { s with heap := h' } ∧ rest = List.range' i (eso.size - i) ∧ i ≤ eso.size ∧ h'.DictOf knd d (merged kvs (more.take i)) ∧ h'.get? o = some oo ∧ Heap.SameBut d s.heap h')
      _ ?_ ?_ _ _ ⟨s.heap, 0, rfl, by simp, Nat.zero_le _, by simpa [merged] using hd, hoo, Heap.SameBut.refl _ _⟩
    · rintro x rest b s' ⟨h', i, rfl, hr, hi, hd', hoo', hs'⟩
      have hlt : i < eso.size := by
        rcases Nat.lt_or_ge i eso.size with h | h
        · exact h
        · rw [Nat.sub_eq_zero_of_le h] at hr; simp at hr
      obtain ⟨rfl, hrest⟩ : x = i ∧ rest = List.range' (i + 1) (eso.size - (i + 1)) := by
        have e : eso.size - i = (eso.size - (i + 1)) + 1 := by omega
        rw [e, List.range'_succ] at hr
        injection hr with h1 h2
        exact ⟨h1, h2⟩
      refine wpAny_bind (wpAny_dictEntries hoo' hdo' ?_)
      rw [Array.getElem?_eq_getElem hlt]
      obtain ⟨kv, hkv⟩ : ∃ kv, more[x]? = some kv := ⟨more[x]'(by rw [hlen]; exact hlt), List.getElem?_eq_getElem _⟩
      obtain ⟨k, v⟩ := kv
      obtain ⟨hkey, hval⟩ := hpo.get? (e := eso[x]) (by simp [hlt]) hkv
      obtain ⟨k', hkey', hhash⟩ := hko eso[x] (Array.getElem_mem hlt)
      obtain rfl : k' = k := knd.inj _ _ _ hkey' hkey
      show wpAny _ _ (holding [eso[x].key, eso[x].val] (dictPut d eso[x].hash eso[x].key eso[x].val) >>= _) _ _ _
      rw [hhash, hval]
      have hmx : (merged kvs (more.take x)).length ≤ sizeLine := by
        have e1 := merged_length_le kvs (more.take x)
        have e2 : (more.take x).length ≤ more.length := by rw [List.length_take]; omega
        omega
      refine wpAny_bind (wpAny_holding (wpAny_dictPut_pairs (hsz := hmx) hkey hd' fun h'' hd'' hs'' => ?_))
      have hoo'' : h''.get? o = some oo := (hs''.2 o (Ne.symm hdo)).trans hoo'
      refine wpAny_bind (wpAny_dictEpoch hoo'' hdo' ?_)
      rw [if_neg (by simp)]
      exact wpAny_pure ⟨h'', x + 1, rfl, hrest, hlt, by rw [merged_take_succ kvs more x (k', v) hkv]; exact hd'', hoo'', hs'.trans hs''⟩
    · rintro b s' ⟨h', i, rfl, hr, hi, hd', hoo', hs'⟩
      have hin : i = eso.size := by
        rcases Nat.lt_or_ge i eso.size with h | h
        · have e : eso.size - i = (eso.size - (i + 1)) + 1 := by omega
          rw [e, List.range'_succ] at hr; exact nomatch hr
        · exact Nat.le_antisymm hi h
      refine wpAny_pure (hQ h' ?_ ⟨oo, eso, epo, hoo', hco, hdo', hko, hpo, hno⟩ hs')
      rw [hin, ← hlen, List.take_length] at hd'; exact hd'
  refine wpAny_bind (wpAny_isInstance ho.typeIs isSubtype_dict_dict ?_)
  simp only [if_true]
  refine wpAny_bind (wpAny_specialOf ho.typeIs F.slot_dict_iter.lookup ?_)
  refine wpAny_bind (wpAny_pure ?_)
  simp only [beq_self_eq_true]
  rw [if_neg (show ¬ (o == sysModules) = true by rw [hoS]; exact Bool.false_ne_true)]
  refine wpAny_bind (wpAny_dictEntries hod hdd ?_)
  split
  · refine wpAny_bind (wpAny_dictEntries hoo hdo' ?_)
    refine wpAny_bind ?_
    refine MeetsSeq2.wpAny_forIn_array _ (fun rest _ s' => s' = s ∧ ∀ e ∈ rest, ∃ k, knd.is k e.key = true) _ ?_ ?_ _ _ ⟨rfl, fun e he => ?_⟩
    · rintro e rest b s' ⟨rfl, hk⟩
      obtain ⟨k, hk1⟩ := hk e (by simp)
      have hb := knd.byValue _ _ hk1
      split
      · rename_i a ea
        rw [ea] at hb
        cases hb
      · exact wpAny_pure ⟨rfl, fun e he => hk e (by simp [he])⟩
    · rintro b s' ⟨rfl, _⟩
      exact loop (fun _ => pure ()) trivial
    · obtain ⟨k, h1, _⟩ := hko e (by simpa using he)
      exact ⟨k, h1⟩
  · exact loop (fun _ => pure ()) trivial
end
end PySem
set_option Elab.async false
set_option linter.all false
set_option maxRecDepth 100000
set_option maxHeartbeats 4000000
/-! {**d, k: v} -/
namespace PySem
open Sem (wp)
section
variable {prog : Program} {w : World} {K : Type} [DecidableEq K] {knd : KeyKind prog w K} {A : Around} {E : Value → Shared → Prop} {s : Shared}
theorem wpAny_display_star {m tk tv : Sem Value} {Q : Value → Shared → Prop}
    (h : wpAny (model prog w) A m (fun x s1 => ∃ o more, x = .ref o ∧ s.heap.objs.size ≠ o ∧ (o == sysModules) = false ∧ s1.heap.DictOf knd s.heap.objs.size [] ∧ s1.heap.DictOf knd o more ∧ more.length ≤ 1000 ∧
      ∀ h', h'.DictOf knd s.heap.objs.size (merged [] more) → Heap.SameBut s.heap.objs.size s1.heap h' →
        wpAny (model prog w) A (evalPairs [(tk, tv)]) (fun vs s2 => ∃ kvs bs, Carries knd vs kvs ∧ (h'.objs.size == sysModules) = false ∧ h'.objs.size ≠ s.heap.objs.size ∧ s2.heap.DictOf knd h'.objs.size [] ∧ s2.heap.DictOf knd s.heap.objs.size bs ∧ bs.length ≤ 1000 ∧ kvs.length ≤ 1 ∧
          ∀ h2 h3, h2.DictOf knd h'.objs.size (merged [] kvs) → Heap.SameBut h'.objs.size s2.heap h2 → h3.DictOf knd s.heap.objs.size (merged bs (merged [] kvs)) → Heap.SameBut s.heap.objs.size h2 h3 →
            Q (.ref s.heap.objs.size) { s2 with heap := h3, toks := s2.toks + vs.length }) E
          { s1 with heap := h'.push { cls := .type "dict", data := .dict #[] } }) E
      { s with heap := s.heap.push { cls := .type "dict", data := .dict #[] } }) :
    wpAny (model prog w) A (dictDisplay [(none, m), (some tk, tv)]) Q E s := by
  unfold dictDisplay
  simp only [List.forIn_cons, List.forIn_nil, pure_bind, bind_assoc, List.isEmpty_nil, if_true]
  refine wpAny_bind (wpAny_alloc ?_)
  refine wpAny_bind (wpAny_holding (wpAny_mono h (fun x s1 hx => ?_) fun _ _ e => e))
  obtain ⟨o, more, rfl, n1, n2, d1, d2, hl, hx⟩ := hx
  refine wpAny_bind (wpAny_onRaise (wpAny_tryCatch (wpAny_onRaise (wpAny_holding (wpAny_mergeMap (knd := knd) n1 n2 d1 d2 (fun h' e1 e2 e3 => ?_) (hsz := by
    rw [List.length_nil]; exact Nat.le_trans (by omega) (show 1000 ≤ sizeLine by decide)))))))
  rw [if_neg (show ¬ ((([] : List (Sem Value × Sem Value)) ++ [(tk, tv)]).length == 17) = true from by simp)]
  simp only [pure_bind, List.nil_append, List.isEmpty_cons, Bool.false_eq_true, if_false, bind_assoc]
  refine wpAny_bind (wpAny_holding (wpAny_subDict (knd := knd) (by simp) (wpAny_mono (hx h' e1 e3) (fun vs s2 h2 => ?_) fun _ _ e => e)))
  obtain ⟨kvs, bs, c, k1, k2, k3, k4, k6, k5, q⟩ := h2
  refine ⟨kvs, c, k3, fun h2 a1 a2 => ?_⟩
  have m2 := merged_length_le [] kvs
  have k4' : h2.DictOf knd s.heap.objs.size bs := k4.sameBut a2 k2.symm
  refine wpAny_bind (wpAny_onRaise (wpAny_holding (wpAny_mergeMap (knd := knd) k2.symm k1 k4' a1 (fun h3 b1 b2 b3 => wpAny_pure ?_) (hsz := by
    rw [List.length_nil] at m2; exact Nat.le_trans (by omega) (show 1001 ≤ sizeLine by decide)))))
  exact q h2 h3 a1 a2 b1 b3
end
end PySem
set_option Elab.async false
set_option linter.all false
set_option maxRecDepth 100000
set_option maxHeartbeats 4000000
/-! {**d, k: v}: a dict of one's own -/
namespace EV
open PySem PySem.Spec PyProof.Rows L2
section
variable {X : Cx}
def tMrg (ta tk tv : TE) : TE := fun σ H Q => ∀ p, H p = none → ta σ (upd H p (.dK [])) fun x H1 => ∃ o od kvs, x = .ref o ∧ H1 p = some (.dK []) ∧ H1 o = some (.frz od (.dK kvs)) ∧ kvs.length ≤ 1000 ∧
  ∀ q, H1 q = none → tk σ (upd (upd H1 p (.dK (mergeK [] kvs))) q (.dK [])) fun kx H2 => tv σ H2 fun vx H3 => ∃ key bs, kx = kV key ∧ H3 q = some (.dK []) ∧ H3 p = some (.dK bs) ∧ bs.length ≤ 1000 ∧
    Q (.ref p) (upd (upd H3 q (.dK (mergeK [] [(key, vx)]))) p (.dK (mergeK bs (mergeK [] [(key, vx)]))))
theorem pe_mrg {a k v : Expr} {ta tk tv : TE} {pos : Pos} (ha : PE X a ta) (hk : PE X k tk) (hv : PE X v tv) : PE X (.Dict [none, some k] [a, v] pos) (tMrg ta tk tv) := by
  refine ⟨fun pins s σ H Q I h => ?_⟩
  have hn := I.hok.fresh (Nat.le_refl s.heap.objs.size)
  have I1 := I.laid (a := s.heap.objs.size) (o := .dK []) (h' := s.heap.push { cls := .type "dict", data := .dict #[] }) (t' := s.toks) (fun _ _ q => Heap.get?_push_of_some _ q) (Nat.le_refl _) (dk_empty s.heap I.big)
  rw [arm_eval_Dict]
  refine wpAny_bind (wpAny_standAt ?_)
  show wpAny _ _ (dictDisplay [(none, do let x ← eval a X.env; standAt pos; pure x), (some (eval k X.env), do let x ← eval v X.env; standAt pos; pure x)]) _ _ _
  refine wpAny_display_star (knd := mixKind X.prog X.w) (wpAny_bind (wpAny_mono (ha.run pins _ σ _ _ I1 (h _ hn)) (fun u s1 hz => wpAny_bind (wpAny_standAt (wpAny_pure ?_))) fun _ _ e => e))
  obtain ⟨x, H1, I2, rx, o, od, kvs, rfl, hp, ho, hl, q⟩ := hz
  obtain rfl : u = Value.ref o := rx
  obtain ⟨z1, zs, vs1, r1, d1⟩ := dk_of I2.hok hp
  cases r1
  obtain ⟨_, z2, os, vs2, r2, d2⟩ := I2.hok _ _ ho
  have lv : vs2.length = kvs.length := by rw [← r2.length]
  refine ⟨o, vs2, rfl, fun e => ?_, os, d1, d2, by omega, fun h' e1 e2 => ?_⟩
  · rw [← e, hp] at ho; cases ho
  have zk : (mergeK [] kvs).length ≤ sizeLine := by
    have e := length_mergeK kvs []
    rw [List.length_nil] at e
    exact Nat.le_trans (by omega) (show 1000 ≤ sizeLine by decide)
  have he : ∃ q, h'.get? s.heap.objs.size = some q := let ⟨q, _, _, hq, _⟩ := e1; ⟨q, hq⟩
  have I3 := d_write (t' := s1.toks) I2 (by rw [hp]; exact True.intro) e2 he (dk_new zk zs (r2.merge .nil) e1)
  have hn3 := I3.hok.fresh (Nat.le_refl h'.objs.size)
  have n3 : h'.objs.size ≠ s.heap.objs.size := fun z => by rw [z, upd_same] at hn3; cases hn3
  have I4 := I3.laid (a := h'.objs.size) (o := .dK []) (h' := h'.push { cls := .type "dict", data := .dict #[] }) (t' := s1.toks) (fun _ _ q => Heap.get?_push_of_some _ q) (Nat.le_refl _) (dk_empty h' I3.big)
  have hq := q h'.objs.size (by rw [upd_ne n3] at hn3; exact hn3)
  refine evalPairs_cons (wpAny_mono (hk.run pins _ σ _ _ I4 hq) (fun u1 s2 hz => ?_) fun _ _ e => e)
  obtain ⟨kx, H5, I5, rk, q5⟩ := hz
  refine wpAny_bind (wpAny_mono (hv.run pins _ σ _ _ I5 q5) (fun u2 s3 hz => wpAny_bind (wpAny_standAt (wpAny_pure (evalPairs_nil ?_)))) fun _ _ e => e)
  obtain ⟨vx, H6, I6, rv, key, bs, rfl, e5, e6, e7, q6⟩ := hz
  obtain ⟨_, z5, vs5, r5, d5⟩ := dk_of I6.hok e5
  cases r5
  obtain ⟨_, z6, vs6, r6, d6⟩ := dk_of I6.hok e6
  have z7 : vs6.length ≤ 1000 := by rw [← r6.length]; exact e7
  refine ⟨[(key, u2)], vs6, ⟨kV_is rk, rfl, trivial⟩, z5, n3, d5, d6, z7, Nat.le_refl _, fun h2 h3 a1 a2 a3 a4 => ?_⟩
  have rr : KV [(key, vx)] [(key, u2)] := .cons ⟨rfl, rv⟩ .nil
  have w1 : (mergeK [] [(key, vx)]).length ≤ 1 := length_mergeK [(key, vx)] []
  have he2 : ∃ q, h2.get? h'.objs.size = some q := let ⟨q, _, _, hq, _⟩ := a1; ⟨q, hq⟩
  have I7 := d_write (t' := s3.toks) I6 (by rw [e5]; exact True.intro) a2 he2 (dk_new (Nat.le_trans w1 (by decide)) z5 (rr.merge .nil) a1)
  have he3 : ∃ q, h3.get? s.heap.objs.size = some q := let ⟨q, _, _, hq, _⟩ := a3; ⟨q, hq⟩
  have w2 : (mergeK bs (mergeK [] [(key, vx)])).length ≤ sizeLine := by
    have e := length_mergeK (mergeK [] [(key, vx)]) bs
    exact Nat.le_trans (by omega) (show 1001 ≤ sizeLine by decide)
  have I8 := d_write (t' := s3.toks + [(u1, u2)].length) I7 (by rw [upd_ne n3.symm, e6]; exact True.intro) a4 he3 (dk_new w2 z6 ((rr.merge .nil).merge r6) a3)
  exact ⟨.ref _, _, I8, rfl, q6⟩
end
theorem length_putKD (kds : List (Key × D)) (k : Key) (v : D) : (putKD kds k v).length ≤ kds.length + 1 := by
  unfold putKD
  split
  · rw [List.length_map]; omega
  · rw [List.length_append]; exact Nat.le_refl _
theorem length_mergeKD : ∀ (more kds : List (Key × D)), (mergeKD kds more).length ≤ kds.length + more.length
  | [], kds => by show kds.length ≤ kds.length + 0; omega
  | p :: r, kds => by
    have h1 := length_mergeKD r (putKD kds p.1 p.2)
    have h2 := length_putKD kds p.1 p.2
    show (mergeKD (putKD kds p.1 p.2) r).length ≤ _
    rw [List.length_cons]; omega
section
variable {X : Cx} {L : Pl}
abbrev dMrg (ma mk mv : DE) : DE := fun ρ O Q E => ∀ p, O p = none → ma ρ (oset O p (.dic [])) (fun x O1 => ∃ kds, x = .dic kds ∧ kds.length ≤ 1000 ∧ O1 p = some (.dic []) ∧
  ∀ q, O1 q = none → q ≠ p → mk ρ (oset (oset O1 p (.dic (mergeKD [] kds))) q (.dic [])) (fun kx O2 => mv ρ O2 (fun vx O3 => ∃ key, kx = kD key ∧ O3 q = some (.dic []) ∧ O3 p = some (.dic (mergeKD [] kds)) ∧
    Q (.opq (.ref p)) (odel (oset O3 p (.dic (mergeKD (mergeKD [] kds) (mergeKD [] [(key, vx)])))) q)) E) E) E
theorem mo_mrg {ma mk mv : DE} (ha : Mo ma) (hk : Mo mk) (hv : Mo mv) : Mo (dMrg ma mk mv) := fun ρ O Q Q' E E' h hx x p n => ha ρ _ _ _ _ _ (fun _ _ ⟨kds, a, b, c, z⟩ => ⟨kds, a, b, c, fun q nq ne => hk ρ _ _ _ _ _ (fun _ _ y => hv ρ _ _ _ _ _ (fun _ _ ⟨key, e1, e2, e3, w⟩ => ⟨key, e1, e2, e3, h _ _ w⟩) hx y) hx (z q nq ne)⟩) hx (x p n)
theorem d_mrg {a k v : Expr} {ma mk mv : DE} {pos : Pos} (ha : DPE X L a ma) (hk : DPE X L k mk) (hv : DPE X L v mv) : DPE X L (.Dict [none, some k] [a, v] pos) (dMrg ma mk mv) := by
  refine ⟨mo_mrg ha.mo hk.mo hv.mo, pe_imp (pe_mrg ha.run hk.run hv.run) fun σ H Q ⟨G, O, ρ, g, rs, h⟩ p np => ?_⟩
  have s0 := new_own (d := .dic []) (o := .dK []) g np ⟨[], upd_same, .nil⟩
  refine up_of ha.mo s0.good (rs.step s0) (mo_step ha.mo s0 (h p (g.fresh np))) fun x xv O1 G1 H1 q1 s1 r1 => ?_
  obtain ⟨kds, rfl, hl, o1, q1⟩ := q1
  obtain ⟨nG1, nb1, kv0, hp1, rk0⟩ := s1.good.own p _ o1
  cases rk0
  cases r1 with
  | dic e1 rk =>
  refine ⟨_, _, _, rfl, hp1, s1.good.sub _ _ e1, by rw [rk.length]; exact hl, fun q nq => ?_⟩
  have nqp : q ≠ p := fun z => by rw [z, hp1] at nq; cases nq
  have s2 := Step.put (o := .dK (mergeK [] _)) (d := .dic (mergeKD [] kds)) s1.good nG1 nb1 ⟨_, upd_same, rk.merge .nil⟩ (.inl (by rw [o1]; exact Option.some_ne_none _))
  have s3 := new_own (d := .dic []) (o := .dK []) s2.good (q := q) (by rw [upd_ne nqp]; exact nq) ⟨[], upd_same, .nil⟩
  have s03 := ((s0.trans s1).trans s2).trans s3
  refine up_of hk.mo s3.good (rs.step s03) (mo_step hk.mo s03 (q1 q (s1.good.fresh nq) nqp)) fun kx kxv O2 G2 H2 q2 s4 r2 => ?_
  refine up_of hv.mo s4.good (rs.step (s03.trans s4)) (mo_step hv.mo (s03.trans s4) q2) fun vx vxv O3 G3 H3 q3 s5 r3 => ?_
  obtain ⟨key, rfl, o3, o3p, q3⟩ := q3
  obtain ⟨nGq, nbq, kvq, hq3, rq⟩ := s5.good.own q _ o3
  cases rq
  obtain ⟨nGp, nbp, kvp, hp3, rp⟩ := s5.good.own p _ o3p
  obtain rfl := kD_rp r2
  have lp : kvp.length ≤ 1000 := by
    have e := length_mergeKD kds []
    rw [List.length_nil] at e
    rw [rp.length]; omega
  have rr : RpK X.K G3 [(key, vxv)] [(key, vx)] := .cons r3 .nil
  refine ⟨key, kvp, rfl, hq3, hp3, lp, ?_⟩
  have s6 := Step.put (o := .dK (mergeK [] [(key, vxv)])) (d := .dic (mergeKD [] [(key, vx)])) s5.good nGq nbq ⟨_, upd_same, rr.merge .nil⟩ (.inl (by rw [o3]; exact Option.some_ne_none _))
  have s7 := Step.put (p := p) (o := .dK (mergeK kvp (mergeK [] [(key, vxv)]))) (d := .dic (mergeKD (mergeKD [] kds) (mergeKD [] [(key, vx)]))) s6.good nGp nbp ⟨_, upd_same, (rr.merge .nil).merge rp⟩ (.inl (by rw [oset_ne nqp.symm, o3p]; exact Option.some_ne_none _))
  have sub : OSub (odel (oset O3 p (.dic (mergeKD (mergeKD [] kds) (mergeKD [] [(key, vx)])))) q) (oset (oset O3 q (.dic (mergeKD [] [(key, vx)]))) p (.dic (mergeKD (mergeKD [] kds) (mergeKD [] [(key, vx)])))) := fun a d e => by
    by_cases z : a = q
    · rw [z, odel_same] at e; cases e
    · rw [odel_ne z] at e
      by_cases y : a = p
      · rw [y, oset_same] at e ⊢; exact e
      · rw [oset_ne y] at e ⊢; rw [oset_ne z]; exact e
  exact q3 _ _ _ ((((s03.trans s4).trans s5).trans s6).trans s7 |>.frg sub) (.opq _)
end
end EV
set_option Elab.async false
set_option linter.all false
set_option maxRecDepth 100000
set_option maxHeartbeats 4000000
/-! == of dicts of data -/
namespace EV
open PySem PySem.Spec PyProof.Rows L2
theorem valD_inK {ls : List (Key × D)} {k : Key} {y : D} (h : valD ls k = some y) : ∃ kd ∈ ls, kd.2 = y := by
  unfold valD at h
  cases e : ls.find? fun kv => decide (kv.1 = k) with
  | none => rw [e] at h; cases h
  | some kd =>
    rw [e] at h
    cases h
    exact ⟨kd, List.mem_of_find?_eq_some e, rfl⟩
end EV
set_option Elab.async false
set_option linter.all false
set_option maxRecDepth 100000
set_option maxHeartbeats 4000000
/-! isinstance(x, C), C a class of the text -/
namespace EV
open PySem PySem.Spec PyProof.Rows L2
def isOwnD (C : Addr) : PC := fun xs Q => match xs with
  | [x, .opq (.ref C')] => C' = C ∧ ((∃ fs, x = .ins C fs ∧ Q (.bl true)) ∨ ((tyD x).isSome = true ∧ Q (.bl false)))
  | _ => False
end EV
set_option Elab.async false
set_option linter.all false
set_option maxRecDepth 100000
set_option maxHeartbeats 4000000
set_option pp.maxSteps 400
/-! Store._row, _with_rows, put, drop, tables, __eq__ -/
namespace LW
open PySem PySem.Spec PyProof.Rows L2 EV PySem.XO PySem.W LamX
local macro_rules | `(tactic| walk_at "n") => `(tactic| refine st_norm (by simp only [List.set_cons_succ, List.set_cons_zero]; rfl) ?_)
abbrev s_Store_tables : Stmt := clsS 31 2
abbrev N_Store_tables : List Str := ["self"]
theorem sc_Store_tables : FnScope N_Store_tables ["self"] (defScope s_Store_tables) := ⟨rfl, rfl, rfl, by decide +kernel, rfl, by decide +kernel, by decide +kernel⟩
/-- a store that stands: its size and its tables, as kept -/
structure St (fs : List (Str × D)) (n : Int) (kds : List (Key × D)) : Prop where
  sz : fs.lookup ("size" : Str) = some (.int n)
  tb : fs.lookup ("_tables" : Str) = some (.dic kds)
  no : ∀ x : Str, x ≠ "size" → x ≠ "_tables" → fs.lookup x = none
  tup : ∀ k t, valD kds k = some t → ∃ (a : Int) (rs : List D), t = .tup [.int a, .lst rs]
end LW
set_option Elab.async false
set_option linter.all false
set_option maxRecDepth 100000
set_option maxHeartbeats 4000000
set_option pp.maxSteps 400
/-! Store._row, _with_rows, put, drop, tables, __eq__ -/
namespace LW
open PySem PySem.Spec PyProof.Rows L2 EV PySem.XO PySem.W LamX
local macro_rules | `(tactic| walk_at "n") => `(tactic| refine st_norm (by simp only [List.set_cons_succ, List.set_cons_zero]; rfl) ?_)
end LW
set_option Elab.async false
set_option linter.all false
set_option maxRecDepth 100000
set_option maxHeartbeats 4000000
set_option pp.maxSteps 400
/-! Store.tables, Store.__eq__ -/
namespace LW
open PySem PySem.Spec PyProof.Rows L2 EV PySem.XO PySem.W LamX
def tabsS (C : Addr) : DSp := fun ds O Q _ => ∃ fs kds, ds = [.ins C fs] ∧ fs.lookup ("_tables" : Str) = some (.dic kds) ∧ kds.length ≤ 1000 ∧ Q (.lst (kds.map fun kd => kD kd.1)) O
section
variable {P : Program} {w : World} {K : PySem.W.Frag} {mg : Str → Option Value} {base : Heap}
theorem ok_Store_tables {f C : Addr} {fd : FuncData} (F : Fun K "tables" "Store.tables" s_Store_tables f fd) (m_list : mg "list" = none) (CL_Store : Cls K C) (NA_Store__tables : NoAttr K C "_tables") :
    FnOk P w K mg base (L2.CX P w) 4 f fd ["self"] (spD K (tabsS C)) := by
  refine fn_exc F sc_Store_tables (fun ds O Q E h => ?_) (fun cdv A outer s H E hr tk =>
    (d_sone (d_ret (d_callTy (cd_listK rfl) rfl m_list boot_list (d_cons (d_fld CL_Store NA_Store__tables (d_var (i := 0) rfl (.inl rfl) (by decide) (by decide)) rfl) d_nil rfl) (by decide) (by decide) rfl rfl)))) (fun ds O Q E h => ?_)
  · obtain ⟨fs, kds, rfl, _⟩ := h; rfl
  · obtain ⟨fs, kds, rfl, hf, hl, q⟩ := h
    rw [show startD N_Store_tables [.ins C fs] = [.sh (.ins C fs)] from rfl]
    refine val_retX ?_
    exact val_fld (fun Q E q => q) hf _ _ q
end
end LW
set_option Elab.async false
set_option linter.all false
set_option maxRecDepth 100000
set_option maxHeartbeats 4000000
/-! data without bools: == is equality -/
namespace EV
open PySem PySem.Spec PyProof.Rows L2
mutual
def nz : D → Bool
  | .non => true
  | .int _ => true
  | .str x => PyData.strOk x
  | .lst xs => nzs xs
  | .tup xs => nzs xs
  | _ => false
def nzs : List D → Bool
  | [] => true
  | x :: xs => nz x && nzs xs
end
mutual
def dp : D → Nat
  | .lst xs => dps xs + 1
  | .tup xs => dps xs + 1
  | _ => 0
def dps : List D → Nat
  | [] => 0
  | x :: xs => max (dp x) (dps xs)
end
end EV
set_option Elab.async false
set_option linter.all false
set_option maxRecDepth 100000
set_option maxHeartbeats 4000000
/-! rules for walking by whnf -/
namespace EV
open PySem PySem.Spec PyProof.Rows L2
section
variable {ρ ρ' : Slots} {O O1 : Ow} {Q : QD} {E : QX} {p q : Addr} {d : D}
theorem go_var {i : Nat} (e : ρ[i]? = some (.sh d)) (h : Q d O) : dVar i ρ O Q E := by unfold dVar; rw [e]; exact h
theorem go_varF {i : Nat} (e : ρ[i]? = some (.sh (.opq (.ref p)))) (e2 : O p = some d) (h : Q d (odel O p)) : dVarF i ρ O Q E := by unfold dVarF; rw [e]; exact ⟨d, e2, h⟩
theorem go_fld {C : Addr} {f : Str} {fs : List (Str × D)} {Q : D → Prop} (e : fs.lookup f = some d) (h : Q d) : fldD C f (.ins C fs) Q := by unfold fldD; refine ⟨rfl, ?_⟩; rw [e]; exact h
theorem go_fldH {C : Addr} {f : Str} {fs : List (Str × D)} {Q : D → Prop} (e : O p = some (.ins C fs)) (e2 : fs.lookup f = some d) (h : Q d) : fldD C f (lk O (.opq (.ref p))) Q := by rw [lk_of e]; exact go_fld e2 h
theorem go_ixL {xs : List D} {k : Int} {Q : D → Prop} (e : atI xs k = some d) (h : Q d) : ixP (.lst xs) (.int k) Q := by unfold ixP; simp only [e]; exact h
theorem go_ixT {xs : List D} {k : Int} {Q : D → Prop} (e : atI xs k = some d) (h : Q d) : ixP (.tup xs) (.int k) Q := by unfold ixP; simp only [e]; exact h
theorem go_ixH {xs : List D} {k : Int} {Q : D → Prop} (e : O p = some (.lst xs)) (e2 : atI xs k = some d) (h : Q d) : ixP (lk O (.opq (.ref p))) (.int k) Q := by rw [lk_of e]; exact go_ixL e2 h
theorem go_bcT {P R : Prop} {c : Bool} (e : c = true) (h : P) : bc c P R := by subst e; exact h
theorem go_bcF {P R : Prop} {c : Bool} (e : c = false) (h : R) : bc c P R := by subst e; exact h
theorem go_set {i : Nat} {Q : Slots → Prop} (e : ρ.set i (.sh d) = ρ') (h : Q ρ') : dgName i d ρ Q := by subst e; exact h
theorem go_methH {C : Addr} {f : Str} {fs : List (Str × D)} {R : Prop} (e : O p = some (.ins C fs)) (e2 : fs.lookup f = none) (h : R) : (match lk O (.opq (.ref p)) with
  | .ins C' fs => C' = C ∧ fs.lookup f = none
  | _ => False) ∧ R := by rw [lk_of e]; exact ⟨⟨rfl, e2⟩, h⟩
theorem go_lm {xs : List D} {R : Addr → List D → Prop} (e : O p = some (.lst xs)) (h : R p xs) : ∃ p' xs0, D.opq (.ref p) = .opq (.ref p') ∧ O p' = some (.lst xs0) ∧ R p' xs0 := ⟨p, xs, rfl, e, h⟩
theorem go_lm2 {xs : List D} {R : List D → Prop} (e : O p = some (.lst xs)) (h : R xs) : ∃ xs0, O p = some (.lst xs0) ∧ R xs0 := ⟨xs, e, h⟩
theorem go_app {xs : List D} {k : D → List D → Prop} (h : xs.length < sizeLine) (q : k .non (xs ++ [d])) : appR xs [d] k := ⟨d, rfl, h, q⟩
theorem go_ext {xs zs : List D} {k : D → List D → Prop} (h : xs.length + zs.length ≤ sizeLine) (q : k .non (xs ++ zs)) : extR xs [.lst zs] k := ⟨zs, rfl, h, q⟩
theorem go_setF {C : Addr} {R : List (Str × D) → Prop} {fs : List (Str × D)} (e : O p = some (.ins C fs)) (h : R fs) : ∃ fs', O p = some (.ins C fs') ∧ R fs' := ⟨fs, e, h⟩
theorem szk' {n : Nat} (h : n ≤ 1000) : n ≤ sizeLine := Nat.le_trans h (by decide)
theorem szR {n : Nat} (h : Nat.ble n sizeLine = true) : n ≤ sizeLine := Nat.le_of_ble_eq_true h
theorem szlt {n : Nat} (h : Nat.blt n sizeLine = true) : n < sizeLine := of_decide_eq_true (by simpa [Nat.blt_eq] using h)
theorem szl {n : Nat} (h : n < 1000) : n < sizeLine := Nat.lt_of_lt_of_le h (by decide)
theorem ga0 {x0 : D} {xs : List D} : atI (x0 :: xs) 0 = some x0 := (show atI _ ((0 : Nat) : Int) = _ from atI_nat rfl)
theorem ga1 {x0 x1 : D} {xs : List D} : atI (x0 :: x1 :: xs) 1 = some x1 := (show atI _ ((1 : Nat) : Int) = _ from atI_nat rfl)
theorem ga2 {x0 x1 x2 : D} {xs : List D} : atI (x0 :: x1 :: x2 :: xs) 2 = some x2 := (show atI _ ((2 : Nat) : Int) = _ from atI_nat rfl)
theorem ga3 {x0 x1 x2 x3 : D} {xs : List D} : atI (x0 :: x1 :: x2 :: x3 :: xs) 3 = some x3 := (show atI _ ((3 : Nat) : Int) = _ from atI_nat rfl)
theorem ga4 {x0 x1 x2 x3 x4 : D} {xs : List D} : atI (x0 :: x1 :: x2 :: x3 :: x4 :: xs) 4 = some x4 := (show atI _ ((4 : Nat) : Int) = _ from atI_nat rfl)
theorem ga5 {x0 x1 x2 x3 x4 x5 : D} {xs : List D} : atI (x0 :: x1 :: x2 :: x3 :: x4 :: x5 :: xs) 5 = some x5 := (show atI _ ((5 : Nat) : Int) = _ from atI_nat rfl)
theorem ga6 {x0 x1 x2 x3 x4 x5 x6 : D} {xs : List D} : atI (x0 :: x1 :: x2 :: x3 :: x4 :: x5 :: x6 :: xs) 6 = some x6 := (show atI _ ((6 : Nat) : Int) = _ from atI_nat rfl)
theorem ga7 {x0 x1 x2 x3 x4 x5 x6 x7 : D} {xs : List D} : atI (x0 :: x1 :: x2 :: x3 :: x4 :: x5 :: x6 :: x7 :: xs) 7 = some x7 := (show atI _ ((7 : Nat) : Int) = _ from atI_nat rfl)
theorem ga8 {x0 x1 x2 x3 x4 x5 x6 x7 x8 : D} {xs : List D} : atI (x0 :: x1 :: x2 :: x3 :: x4 :: x5 :: x6 :: x7 :: x8 :: xs) 8 = some x8 := (show atI _ ((8 : Nat) : Int) = _ from atI_nat rfl)
theorem ga9 {x0 x1 x2 x3 x4 x5 x6 x7 x8 x9 : D} {xs : List D} : atI (x0 :: x1 :: x2 :: x3 :: x4 :: x5 :: x6 :: x7 :: x8 :: x9 :: xs) 9 = some x9 := (show atI _ ((9 : Nat) : Int) = _ from atI_nat rfl)
theorem ga10 {x0 x1 x2 x3 x4 x5 x6 x7 x8 x9 x10 : D} {xs : List D} : atI (x0 :: x1 :: x2 :: x3 :: x4 :: x5 :: x6 :: x7 :: x8 :: x9 :: x10 :: xs) 10 = some x10 := (show atI _ ((10 : Nat) : Int) = _ from atI_nat rfl)
theorem ga11 {x0 x1 x2 x3 x4 x5 x6 x7 x8 x9 x10 x11 : D} {xs : List D} : atI (x0 :: x1 :: x2 :: x3 :: x4 :: x5 :: x6 :: x7 :: x8 :: x9 :: x10 :: x11 :: xs) 11 = some x11 := (show atI _ ((11 : Nat) : Int) = _ from atI_nat rfl)
theorem ga12 {x0 x1 x2 x3 x4 x5 x6 x7 x8 x9 x10 x11 x12 : D} {xs : List D} : atI (x0 :: x1 :: x2 :: x3 :: x4 :: x5 :: x6 :: x7 :: x8 :: x9 :: x10 :: x11 :: x12 :: xs) 12 = some x12 := (show atI _ ((12 : Nat) : Int) = _ from atI_nat rfl)
theorem ga13 {x0 x1 x2 x3 x4 x5 x6 x7 x8 x9 x10 x11 x12 x13 : D} {xs : List D} : atI (x0 :: x1 :: x2 :: x3 :: x4 :: x5 :: x6 :: x7 :: x8 :: x9 :: x10 :: x11 :: x12 :: x13 :: xs) 13 = some x13 := (show atI _ ((13 : Nat) : Int) = _ from atI_nat rfl)
theorem ga14 {x0 x1 x2 x3 x4 x5 x6 x7 x8 x9 x10 x11 x12 x13 x14 : D} {xs : List D} : atI (x0 :: x1 :: x2 :: x3 :: x4 :: x5 :: x6 :: x7 :: x8 :: x9 :: x10 :: x11 :: x12 :: x13 :: x14 :: xs) 14 = some x14 := (show atI _ ((14 : Nat) : Int) = _ from atI_nat rfl)
theorem ga15 {x0 x1 x2 x3 x4 x5 x6 x7 x8 x9 x10 x11 x12 x13 x14 x15 : D} {xs : List D} : atI (x0 :: x1 :: x2 :: x3 :: x4 :: x5 :: x6 :: x7 :: x8 :: x9 :: x10 :: x11 :: x12 :: x13 :: x14 :: x15 :: xs) 15 = some x15 := (show atI _ ((15 : Nat) : Int) = _ from atI_nat rfl)
theorem oset_self : oset O p d p = some d := oset_same
theorem go_atK {kds : List (Key × D)} {k : Key} {o : Option D} {R : Option D → Prop} (e : valD kds k = o) (h : R o) : atDic (.dic kds) (kD k) R := ⟨k, rfl, by rw [e]; exact h⟩
theorem go_atS {kds : List (Key × D)} {x : Str} {o : Option D} {R : Option D → Prop} (e : valD kds (.inr x) = o) (h : R o) : atDic (.dic kds) (.str x) R := ⟨.inr x, rfl, by rw [e]; exact h⟩
theorem go_atI {kds : List (Key × D)} {x : Int} {o : Option D} {R : Option D → Prop} (e : valD kds (.inl x) = o) (h : R o) : atDic (.dic kds) (.int x) R := ⟨.inl x, rfl, by rw [e]; exact h⟩
theorem go_atHK {kds : List (Key × D)} {k : Key} {o : Option D} {R : Option D → Prop} (e0 : O p = some (.dic kds)) (e : valD kds k = o) (h : R o) : atDic (lk O (.opq (.ref p))) (kD k) R := by rw [lk_of e0]; exact go_atK e h
theorem go_atHS {kds : List (Key × D)} {x : Str} {o : Option D} {R : Option D → Prop} (e0 : O p = some (.dic kds)) (e : valD kds (.inr x) = o) (h : R o) : atDic (lk O (.opq (.ref p))) (.str x) R := by rw [lk_of e0]; exact go_atS e h
theorem go_dputS {kds : List (Key × D)} {x : Str} {R : List (Key × D) → Key → Prop} (e : O p = some (.dic kds)) (hl : kds.length < sizeLine) (h : R kds (.inr x)) : ∃ kds' k, O p = some (.dic kds') ∧ D.str x = kD k ∧ kds'.length < sizeLine ∧ R kds' k := ⟨kds, .inr x, e, rfl, hl, h⟩
theorem go_dputK {kds : List (Key × D)} {k : Key} {R : List (Key × D) → Key → Prop} (e : O p = some (.dic kds)) (hl : kds.length < sizeLine) (h : R kds k) : ∃ kds' k', O p = some (.dic kds') ∧ kD k = kD k' ∧ kds'.length < sizeLine ∧ R kds' k' := ⟨kds, k, e, rfl, hl, h⟩
theorem go_frz {x : D} {R : Addr → D → Prop} (e : O p = some x) (h : R p x) : ∃ p' x', D.opq (.ref p) = .opq (.ref p') ∧ O p' = some x' ∧ R p' x' := ⟨p, x, rfl, e, h⟩
theorem go_pnil {S : List (D × D) → Ow → Prop} (h : S [] O) : dPairs [] ρ O S E := h
theorem go_pcons {mk mv : DE} {ms : List (DE × DE)} {S : List (D × D) → Ow → Prop} (h : mk ρ O (fun a O1 => mv ρ O1 (fun b O2 => dPairs ms ρ O2 (fun ps O3 => S ((a, b) :: ps) O3) E) E) E) : dPairs ((mk, mv) :: ms) ρ O S E := h
variable {R : D → Prop} {xs ys : List D}
theorem go_eqI {f : Bool → Bool} {i j : Int} (h : R (.bl (f (decide (i = j))))) : eqD f (.int i) (.int j) R := h
theorem go_eqS {f : Bool → Bool} {i j : Str} (h : R (.bl (f (decide (i = j))))) : eqD f (.str i) (.str j) R := h
theorem go_eqB {f : Bool → Bool} {i j : Bool} (h : R (.bl (f (decide (i = j))))) : eqD f (.bl i) (.bl j) R := h
theorem go_neg {i : Int} (h : R (.int (-i))) : negD (.int i) R := h
theorem go_lenL (h : R (.int xs.length)) : lenO O [.lst xs] R := h
theorem go_lenT (h : R (.int xs.length)) : lenO O [.tup xs] R := h
theorem go_lenS {y : Str} (hl : y.length ≤ sizeLine) (h : R (.int y.length)) : lenO O [.str y] R := ⟨hl, h⟩
theorem go_lenH (e : O p = some (.lst xs)) (h : R (.int xs.length)) : lenO O [.opq (.ref p)] R := by unfold lenO; rw [List.map_cons, lk_of e]; exact h
theorem go_tupL (h : R (.tup xs)) : tupO O [.lst xs] R := h
theorem go_tupT (h : R (.tup xs)) : tupO O [.tup xs] R := h
theorem go_tupH (e : O p = some (.lst xs)) (h : R (.tup xs)) : tupO O [.opq (.ref p)] R := by unfold tupO; rw [List.map_cons, lk_of e]; exact h
theorem go_listL (h : R (.lst xs)) : listO O [.lst xs] R := h
theorem go_listT (h : R (.lst xs)) : listO O [.tup xs] R := h
theorem go_listH (e : O p = some (.lst xs)) (h : R (.lst xs)) : listO O [.opq (.ref p)] R := by unfold listO; rw [List.map_cons, lk_of e]; exact h
theorem go_all {α : Type} {l : List α} {f : α → Bool} (h : R (.bl (l.all f))) : allD [.lst (l.map fun x => .bl (f x))] R := allD_of (toBs_map f l) (by rw [List.all_map]; exact h)
theorem go_any {α : Type} {l : List α} {f : α → Bool} (h : R (.bl (l.any f))) : anyD [.lst (l.map fun x => .bl (f x))] R := anyD_of (toBs_map f l) (by rw [List.any_map]; exact h)
theorem go_isi {d : D} {n : String} {b : Bool} (e1 : kn n = true) (e2 : (tyD d).isSome = true) (e : isiB d n = b) (h : R (.bl b)) : isiD [d, .opq (.ty n)] R := ⟨e1, e2, by rw [e]; exact h⟩
theorem go_inS {f : Bool → Bool} {x : Str} {ss : List Str} (e : toSs xs = some ss) (h : R (.bl (f (ss.any fun z => decide (x = z))))) : inSD f (.str x) (.tup xs) R := by unfold inSD; dsimp only; rw [e]; exact h
theorem go_inSL {f : Bool → Bool} {x : Str} {ss : List Str} (e : toSs xs = some ss) (h : R (.bl (f (ss.any fun z => decide (x = z))))) : inSD f (.str x) (.lst xs) R := by unfold inSD; dsimp only; rw [e]; exact h
theorem go_sortS {ss : List Str} (hl : ss.length < 64) (h : R (.lst ((srtS ss).map D.str))) : sortSD O [.lst (ss.map D.str)] R := ⟨ss, rfl, hl, h⟩
theorem go_own {C : Addr} {fs : List (Str × D)} (h : R (.bl true)) : isOwnD C [.ins C fs, .opq (.ref C)] R := ⟨rfl, .inl ⟨fs, rfl, h⟩⟩
theorem go_st {s rest : DS} {A : DEnds} (h : ∀ N : Slots → Ow → Prop, N = (fun ρ O => rest A ρ O) → s { A with nx := N } ρ O) : dSeq s rest A ρ O := h _ rfl
theorem go_for {g : DG} {b : DS} {A : DEnds} (xs : List D) (J : Nat → Slots → Ow → Prop) (j0 : J 0 ρ O) (step : ∀ i d, xs[i]? = some d → ∀ ρ O, J i ρ O → ∀ N : Slots → Ow → Prop, (∀ r O, J (i + 1) r O → N r O) → g d ρ fun ρ' => b { A with nx := N, ct := N, bk := A.nx } ρ' O) (k : ∀ r O, J xs.length r O → A.nx r O) : forW tt1 g b A xs ρ O :=
  forW_at xs J (fun _ _ _ _ => trivial) step k (i := 0) rfl (Nat.zero_le _) j0
theorem go_lc {g : DG} {te : DE} {Q : List D → Ow → Prop} {ds acc : List D} (f : D → D) (h : ∀ d ∈ ds, ∀ Qy : QD, Qy (f d) O → g d ρ fun ρ' => te ρ' O Qy fun _ _ => False) (hl : acc.length + ds.length ≤ sizeLine) (q : Q (acc ++ ds.map f) O) : lcW tt1 g dYes te ρ ds acc O Q := lcW_map trivial f h hl q
theorem rng_get {n i : Nat} {d : D} (h : (rngD 0 n)[i]? = some d) : i < n ∧ d = .int i := by
  unfold rngD at h
  rw [List.getElem?_map] at h
  by_cases hi : i < n
  · rw [List.getElem?_range hi] at h
    simp at h
    exact ⟨hi, h.symm⟩
  · rw [List.getElem?_eq_none (by simp; omega)] at h; cases h
end
end EV
set_option Elab.async false
set_option linter.all false
set_option maxRecDepth 100000
set_option maxHeartbeats 4000000
set_option pp.maxSteps 400
/-! tables of stores, typed -/
namespace LW
open PySem PySem.Spec PyProof.Rows L2 EV PySem.XO PySem.W LamX
abbrev Tb := List (Str × Nat × List (List Int))
abbrev tbD (p : Nat) (rs : List (List Int)) : D := .tup [.int (p : Int), .lst (rs.map rowD)]
def kdsOf (t : Tb) : List (Key × D) := t.map fun z => (.inr z.1, tbD z.2.1 z.2.2)
def nmsT (t : Tb) : List Str := t.map (·.1)
def getT (t : Tb) (x : Str) : Nat × List (List Int) := ((t.find? fun z => decide (z.1 = x)).map (·.2)).getD (0, [])
structure Gd (n : Nat) (t : Tb) : Prop where
  n1 : 1 ≤ n
  n8 : n ≤ 8
  le : t.length ≤ 4
  nd : (nmsT t).Nodup
  ok : ∀ z ∈ t, isNm (.str z.1) = true ∧ 1 ≤ z.2.1 ∧ z.2.1 ≤ 2 ∧ (∀ r ∈ z.2.2, isRow n z.2.1 r = true) ∧ z.2.2.Nodup ∧ (z.2.2.length < 64 ∨ (z.2.1 = 2 ∧ z.2.2.length ≤ 64))
def canonT (t : Tb) : Tb := (srtS (nmsT t)).map fun x => (x, (getT t x).1, srtI (getT t x).2)
theorem find_T {t : Tb} (hn : (nmsT t).Nodup) {z : Str × Nat × List (List Int)} (h : z ∈ t) : t.find? (fun y => decide (y.1 = z.1)) = some z := by
  induction t with
  | nil => cases h
  | cons y t ih =>
    unfold nmsT at hn
    rw [List.map_cons, List.nodup_cons] at hn
    rcases List.mem_cons.mp h with rfl | h
    · simp [List.find?_cons]
    · have ne : y.1 ≠ z.1 := fun e => hn.1 (by rw [e]; exact List.mem_map_of_mem h)
      rw [List.find?_cons, decide_eq_false ne]
      exact ih hn.2 h
theorem get_T {t : Tb} (hn : (nmsT t).Nodup) {z : Str × Nat × List (List Int)} (h : z ∈ t) : getT t z.1 = z.2 := by unfold getT; rw [find_T hn h]; rfl
theorem mem_T {t : Tb} {x : Str} (h : x ∈ nmsT t) : ∃ z ∈ t, z.1 = x := List.mem_map.mp h
theorem val_T (t : Tb) (x : Str) : valD (kdsOf t) (.inr x) = (t.find? fun z => decide (z.1 = x)).map fun z => tbD z.2.1 z.2.2 := by
  unfold valD kdsOf
  rw [List.find?_map, Option.map_map]
  have e : ((fun kv : Key × D => decide (kv.1 = Sum.inr x)) ∘ fun z : Str × Nat × List (List Int) => ((Sum.inr z.1 : Key), tbD z.2.1 z.2.2)) = fun z => decide (z.1 = x) := by
    funext z
    simp [Function.comp]
  rw [e]; rfl
theorem val_in {t : Tb} (hn : (nmsT t).Nodup) {x : Str} {p : Nat} {rs : List (List Int)} (h : (x, p, rs) ∈ t) : valD (kdsOf t) (.inr x) = some (tbD p rs) := by rw [val_T, find_T hn h]; rfl
theorem keys_T (t : Tb) : keysS (kdsOf t) = nmsT t := by
  unfold keysS kdsOf nmsT
  rw [List.filterMap_map]
  induction t with
  | nil => rfl
  | cons z t ih => rw [List.filterMap_cons, List.map_cons, ← ih]; rfl
theorem kmap_T (t : Tb) : (kdsOf t).map (·.1) = (nmsT t).map Sum.inr := by unfold kdsOf nmsT; rw [List.map_map, List.map_map]; rfl
theorem nd_T {t : Tb} (hn : (nmsT t).Nodup) : ((kdsOf t).map (·.1)).Nodup := by rw [kmap_T]; exact nodup_map (fun x y e => by cases e; rfl) hn
theorem len_T (t : Tb) : (kdsOf t).length = t.length := by unfold kdsOf; rw [List.length_map]
theorem rows_T (p : Nat) (rs : List (List Int)) : placesOf (tbD p rs) = p ∧ rowsOf (tbD p rs) = rs.map rowD := ⟨rfl, rfl⟩
theorem rowOf_map (rs : List (List Int)) : (rs.map rowD).map rowOf = rs := by
  rw [List.map_map, show (rowOf ∘ rowD) = id from funext rowOf_ints, List.map_id]
theorem tabAt_T {t : Tb} (hn : (nmsT t).Nodup) {z : Str × Nat × List (List Int)} (h : z ∈ t) : tabAt (kdsOf t) z.1 = tbD z.2.1 z.2.2 := by
  unfold tabAt; rw [val_T, find_T hn h]; rfl
theorem stT_T {t : Tb} (hn : (nmsT t).Nodup) : stT (kdsOf t) = kdsOf (canonT t) := by
  unfold stT canonT
  rw [keys_T]
  unfold kdsOf
  rw [List.map_map]
  refine List.map_congr_left fun x hx => ?_
  obtain ⟨z, hz, rfl⟩ := mem_T ((srtS_perm _).mem_iff.mp hx)
  show (Sum.inr z.1, keptT (kdsOf t) z.1) = (Sum.inr z.1, tbD (getT t z.1).1 (srtI (getT t z.1).2))
  rw [get_T hn hz]
  unfold keptT
  rw [tabAt_T hn hz, (rows_T _ _).1, (rows_T _ _).2, rowOf_map]
theorem stX_T {A : Str → Addr} {n : Nat} {t : Tb} (g : Gd n t) : stX A (.int n) (kdsOf t) = none := by
  rw [stX_in g.n1 g.n8]
  unfold tabX
  have hl := len_T t
  have := g.le
  rw [if_neg (by omega), find_none (fun kd hk => ?_), keys_T]
  · refine rowsX_none fun x hx => ?_
    obtain ⟨z, hz, rfl⟩ := mem_T ((srtS_perm _).mem_iff.mp hx)
    rw [tabAt_T g.nd hz, (rows_T _ _).1, (rows_T _ _).2]
    obtain ⟨_, _, _, h4, h5, _⟩ := g.ok z hz
    exact badRow_good (fun r hr => row_ok (h4 r hr)) h5
  · obtain ⟨z, hz, rfl⟩ := List.mem_map.mp hk
    obtain ⟨h1, h2, h3, _⟩ := g.ok z hz
    unfold tabOk
    rw [show kD ((Sum.inr z.1 : Key)) = .str z.1 from rfl, h1, Bool.true_and]
    show (isNum (.int (z.2.1 : Int)) 1 2 && isLst (.lst _)) = true
    have e := isNum12 (p := z.2.1 - 1) (by omega)
    have e2 : z.2.1 - 1 + 1 = z.2.1 := by omega
    rw [e2] at e
    rw [e]; rfl
theorem rowLen {n p : Nat} {r : List Int} (h : isRow n p r = true) : r.length = p := by
  unfold isRow at h
  rw [Bool.and_eq_true, decide_eq_true_eq] at h
  exact h.1
theorem tabPre_T {n : Nat} {t : Tb} (g : Gd n t) : TabPre (kdsOf t) := fun kd hk => by
  obtain ⟨z, hz, rfl⟩ := List.mem_map.mp hk
  obtain ⟨h1, h2, h3, h4, h5, h6⟩ := g.ok z hz
  have hp := tabPre_one (k := .inr z.1) (kds := []) (p := z.2.1) (r := .lst (z.2.2.map rowD)) (flat_str (by have := nm_len h1; omega)) rfl (by show (z.2.2.map rowD).length ≤ 1000; rw [List.length_map]; omega) (fun x hx => by
    obtain ⟨r, hr, rfl⟩ := List.mem_map.mp hx
    exact rowPre_row (by rw [rowLen (h4 r hr)]; omega)) (fun _ h => by cases h)
  exact hp _ (by simp)
theorem few_T {n : Nat} {t : Tb} (g : Gd n t) : Few (kdsOf t) := fun kd hk => by
  obtain ⟨z, hz, rfl⟩ := List.mem_map.mp hk
  obtain ⟨_, _, _, _, _, h6⟩ := g.ok z hz
  show (rowsOf (tbD z.2.1 z.2.2)).length < 64 ∨ (placesOf (tbD z.2.1 z.2.2) = 2 ∧ (rowsOf (tbD z.2.1 z.2.2)).length ≤ 64)
  rw [(rows_T _ _).2, (rows_T _ _).1, List.length_map]
  rcases h6 with h | ⟨h, h2⟩
  · exact .inl h
  · exact .inr ⟨by omega, h2⟩
theorem nms_canon (t : Tb) : nmsT (canonT t) = srtS (nmsT t) := by unfold canonT nmsT; rw [List.map_map]; exact List.map_id' _
theorem mem_canon {t : Tb} (hn : (nmsT t).Nodup) {z : Str × Nat × List (List Int)} (h : z ∈ t) : (z.1, z.2.1, srtI z.2.2) ∈ canonT t := by
  unfold canonT
  refine List.mem_map.mpr ⟨z.1, (srtS_perm _).mem_iff.mpr (List.mem_map_of_mem h), ?_⟩
  rw [get_T hn h]
theorem of_canon {t : Tb} (hn : (nmsT t).Nodup) {z : Str × Nat × List (List Int)} (h : z ∈ canonT t) : ∃ rs, (z.1, z.2.1, rs) ∈ t ∧ z.2.2 = srtI rs := by
  obtain ⟨x, hx, rfl⟩ := List.mem_map.mp h
  obtain ⟨y, hy, rfl⟩ := mem_T ((srtS_perm _).mem_iff.mp hx)
  exact ⟨y.2.2, by show (y.1, (getT t y.1).1, y.2.2) ∈ t; rw [get_T hn hy]; exact hy, by show srtI (getT t y.1).2 = _; rw [get_T hn hy]⟩
theorem Gd.canon {n : Nat} {t : Tb} (g : Gd n t) : Gd n (canonT t) := by
  refine ⟨g.n1, g.n8, ?_, ?_, fun z hz => ?_⟩
  · unfold canonT; rw [List.length_map, (srtS_perm _).length_eq, nmsT, List.length_map]; exact g.le
  · rw [nms_canon]; exact (srtS_perm _).nodup_iff.mpr g.nd
  · obtain ⟨rs, h, e⟩ := of_canon g.nd hz
    obtain ⟨h1, h2, h3, h4, h5, h6⟩ := g.ok _ h
    refine ⟨h1, h2, h3, fun r hr => h4 r ?_, ?_, ?_⟩
    · rw [e] at hr; exact (srtI_perm rs).mem_iff.mp hr
    · rw [e]; exact (srtI_perm rs).nodup_iff.mpr h5
    · rw [e, (srtI_perm rs).length_eq]; exact h6
def setT (t : Tb) (x : Str) (rs : List (List Int)) : Tb := t.map fun z => if z.1 = x then (z.1, z.2.1, rs) else z
theorem nms_set (t : Tb) (x : Str) (rs : List (List Int)) : nmsT (setT t x rs) = nmsT t := by
  unfold nmsT setT
  rw [List.map_map]
  refine List.map_congr_left fun z _ => ?_
  show (if z.1 = x then (z.1, z.2.1, rs) else z).1 = z.1
  split <;> rfl
theorem mem_set {t : Tb} {x : Str} {rs : List (List Int)} {z : Str × Nat × List (List Int)} (h : z ∈ setT t x rs) : (z.1 = x ∧ z.2.2 = rs ∧ ∃ rs', (x, z.2.1, rs') ∈ t) ∨ (z.1 ≠ x ∧ z ∈ t) := by
  obtain ⟨y, hy, rfl⟩ := List.mem_map.mp h
  by_cases e : y.1 = x
  · rw [if_pos e]; exact .inl ⟨e, rfl, y.2.2, by subst e; exact hy⟩
  · rw [if_neg e]; exact .inr ⟨e, hy⟩
theorem Gd.set {n : Nat} {t : Tb} (g : Gd n t) {x : Str} {p : Nat} {rs' rs : List (List Int)} (hx : (x, p, rs') ∈ t) (h1 : ∀ r ∈ rs, isRow n p r = true) (h2 : rs.Nodup) (h3 : rs.length < 64 ∨ (p = 2 ∧ rs.length ≤ 64)) : Gd n (setT t x rs) := by
  refine ⟨g.n1, g.n8, by unfold setT; rw [List.length_map]; exact g.le, by rw [nms_set]; exact g.nd, fun z hz => ?_⟩
  rcases mem_set hz with ⟨e1, e2, rs2, e3⟩ | ⟨_, hz⟩
  · have ep : (p, rs') = (z.2.1, rs2) := (get_T g.nd hx).symm.trans (get_T g.nd e3)
    cases ep
    obtain ⟨a, b, c, _⟩ := g.ok _ hx
    rw [e1, e2]
    exact ⟨a, b, c, h1, h2, h3⟩
  · exact g.ok z hz
theorem stF_T {n : Nat} {t : Tb} (g : Gd n t) : St (stF n (kdsOf t)) n (kdsOf (canonT t)) := by
  refine ⟨rfl, by rw [← stT_T g.nd]; rfl, fun x h1 h2 => ?_, fun k v h => ?_⟩
  · unfold stF
    rw [List.lookup_cons, show (x == "size") = false from beq_false_of_ne h1, List.lookup_cons, show (x == "_tables") = false from beq_false_of_ne h2]; rfl
  · obtain ⟨kd, hk, rfl⟩ := valD_inK h
    obtain ⟨z, _, rfl⟩ := List.mem_map.mp hk
    exact ⟨_, _, rfl⟩
section
variable {K : PySem.W.Frag} {A : Str → Addr} {C : Addr} {O : Ow} {Q : QD} {E : QX} {n : Nat} {t : Tb}
theorem call_mkSt (g : Gd n t) (q : Q (.ins C (stF n (kdsOf t))) O) : mkG C (iniST A C) [.int n, .dic (kdsOf t)] O Q E :=
  mkG_st (nd_T g.nd) (by rw [len_T]; have := g.le; omega) (tabPre_T g) (few_T g) (fun _ => q) fun x e => by rw [stX_T g] at e; cases e
theorem call_tabs (gd : Gd n t) (q : Q (.lst ((srtS (nmsT t)).map D.str)) O) : tabsS C [.ins C (stF n (kdsOf t))] O Q E := by
  refine ⟨_, kdsOf (canonT t), rfl, (stF_T gd).tb, by rw [len_T]; have := gd.canon.le; omega, ?_⟩
  have e : ((kdsOf (canonT t)).map fun kd => kD kd.1) = (srtS (nmsT t)).map D.str := by
    rw [← nms_canon]
    unfold kdsOf nmsT
    rw [List.map_map, List.map_map]; rfl
  rw [e]; exact q
end
end LW
set_option Elab.async false
set_option linter.all false
set_option maxRecDepth 100000
set_option maxHeartbeats 4000000
/-! what a saying means -/
namespace LW
open PySem PySem.Spec PyProof.Rows L2 EV PySem.XO PySem.W LamX
abbrev En := List (Str × Nat)
def envK (e : En) : List (Key × D) := e.map fun z => (Sum.inr z.1, D.int z.2)
def nmsE (e : En) : List Str := e.map (·.1)
def getE (e : En) (x : Str) : Nat := ((e.find? fun z => decide (z.1 = x)).map (·.2)).getD 0
def setE (e : En) (x : Str) (t : Nat) : En := if x ∈ nmsE e then e.map (fun z => if z.1 = x then (z.1, t) else z) else e ++ [(x, t)]
def updE (f : Str → Nat) (x : Str) (t : Nat) : Str → Nat := fun y => if y = x then t else f y
theorem find_E {e : En} {x : Str} (h : x ∈ nmsE e) : ∃ z, e.find? (fun z => decide (z.1 = x)) = some z ∧ z.1 = x := by
  cases q : e.find? (fun z => decide (z.1 = x)) with
  | none =>
    obtain ⟨z, hz, rfl⟩ := List.mem_map.mp h
    have := List.find?_eq_none.mp q z hz
    simp at this
  | some z => exact ⟨z, rfl, by simpa using List.find?_some q⟩
theorem val_E {e : En} {x : Str} (h : x ∈ nmsE e) : valD (envK e) (.inr x) = some (.int (getE e x)) := by
  obtain ⟨z, hz, _⟩ := find_E h
  unfold valD envK getE
  rw [List.find?_map, Option.map_map]
  have e1 : ((fun kv : Key × D => decide (kv.1 = Sum.inr x)) ∘ fun z : Str × Nat => ((Sum.inr z.1 : Key), D.int z.2)) = fun z => decide (z.1 = x) := by
    funext z
    simp [Function.comp]
  rw [e1, hz]; rfl
theorem nms_setE {e : En} {x : Str} {t : Nat} (h : x ∉ nmsE e) : nmsE (setE e x t) = nmsE e ++ [x] := by
  unfold setE
  rw [if_neg h]
  unfold nmsE
  rw [List.map_append]; rfl
theorem put_E (e : En) (x : Str) (t : Nat) : putKD (envK e) (.inr x) (.int t) = envK (setE e x t) := by
  unfold putKD setE
  by_cases h : x ∈ nmsE e
  · obtain ⟨z, hz, rfl⟩ := List.mem_map.mp h
    have e1 : ((envK e).any fun kv => decide (kv.1 = Sum.inr z.1)) = true := List.any_eq_true.mpr ⟨((Sum.inr z.1 : Key), D.int z.2), List.mem_map.mpr ⟨z, hz, rfl⟩, decide_eq_true rfl⟩
    rw [if_pos e1, if_pos h]
    unfold envK
    rw [List.map_map, List.map_map]
    refine List.map_congr_left fun y _ => ?_
    show (if (Sum.inr y.1 : Key) = .inr z.1 then ((Sum.inr y.1 : Key), D.int t) else (Sum.inr y.1, D.int y.2)) = (Sum.inr (if y.1 = z.1 then (y.1, t) else y).1, D.int ((if y.1 = z.1 then (y.1, t) else y).2 : Nat))
    by_cases e2 : y.1 = z.1
    · rw [if_pos (by rw [e2]), if_pos e2]
    · rw [if_neg (fun q => e2 (Sum.inr.inj q)), if_neg e2]
  · have e1 : ((envK e).any fun kv => decide (kv.1 = Sum.inr x)) = false := by
      refine List.any_eq_false.mpr fun kv hk => ?_
      obtain ⟨z, hz, rfl⟩ := List.mem_map.mp hk
      intro q
      have := of_decide_eq_true q
      exact h (by rw [← Sum.inr.inj this]; exact List.mem_map_of_mem hz)
    rw [if_neg (by rw [e1]; decide), if_neg h]
    unfold envK
    rw [List.map_append]; rfl
theorem get_setE (e : En) (x : Str) (t : Nat) : getE (setE e x t) = updE (getE e) x t := by
  funext y
  unfold setE updE
  by_cases h : x ∈ nmsE e
  · rw [if_pos h]
    unfold getE
    rw [List.find?_map]
    have e1 : ((fun z : Str × Nat => decide (z.1 = y)) ∘ fun z : Str × Nat => if z.1 = x then (z.1, t) else z) = fun z => decide (z.1 = y) := by
      funext z
      show decide ((if z.1 = x then (z.1, t) else z).1 = y) = _
      split <;> rfl
    rw [e1]
    by_cases hy : y = x
    · subst hy
      obtain ⟨z, hz, rfl⟩ := find_E h
      rw [hz, if_pos rfl]
      simp
    · rw [if_neg hy]
      cases q : e.find? fun z => decide (z.1 = y) with
      | none => rfl
      | some z =>
        have : z.1 = y := by simpa using List.find?_some q
        simp [this, hy]
  · rw [if_neg h]
    unfold getE
    rw [List.find?_append]
    cases q : e.find? fun z => decide (z.1 = y) with
    | none =>
      by_cases hy : y = x
      · subst hy; simp
      · have : ¬ x = y := fun z => hy z.symm
        simp [hy, this]
    | some z =>
      have hz : z.1 = y := by simpa using List.find?_some q
      have : y ≠ x := fun e2 => h (by rw [← e2, ← hz]; exact List.mem_map_of_mem (List.mem_of_find?_eq_some q))
      simp [this]
/-! ### levels of a way -/
def nextL (n : Nat) (st : Nat → Nat → Bool) (l : List Nat) : List Nat := (List.range n).filter fun t => decide (t ∈ l) || l.any fun s => st s t
def growL (n : Nat) (st : Nat → Nat → Bool) : Nat → List Nat → List (List Nat)
  | 0, l => [l]
  | k + 1, l => if (nextL n st l).length = l.length then [l] else l :: growL n st k (nextL n st l)
def levL (n : Nat) (st : Nat → Nat → Bool) (a : Nat) : List (List Nat) := growL n st n [a]
def Tst.pass : Tst → Nat → Bool
  | .least k, m => decide (k ≤ m)
  | .most k, m => decide (m ≤ k)
  | .rest k r, m => decide (m % k = r)
/-- a saying holds in a store of n things, whose tables row tells, with things by name -/
def sem (n : Nat) (row : Str → List Int → Bool) : Say Str → (Str → Nat) → Bool
  | .has t a, f => row t [(f a : Int)]
  | .link t a b, f => row t [(f a : Int), (f b : Int)]
  | .same a b, f => decide (f a = f b)
  | .less a b, f => decide (f a < f b)
  | .not s, f => !sem n row s f
  | .and s t, f => sem n row s f && sem n row t f
  | .or s t, f => sem n row s f || sem n row t f
  | .some x s, f => decide (0 < ((List.range n).filter fun t => sem n row s (updE f x t)).length)
  | .all x s, f => decide (((List.range n).filter fun t => sem n row s (updE f x t)).length = n)
  | .count x k s, f => k.pass ((List.range n).filter fun t => sem n row s (updE f x t)).length
  | .way x y s a b, f => decide (f b ∈ ((levL n (fun u v => sem n row s (updE (updE f x u) y v)) (f a)).getLast?).getD [])
  | .within m x y s a b, f => decide (f b ∈ ((levL n (fun u v => sem n row s (updE (updE f x u) y v)) (f a)).getD (min m ((levL n (fun u v => sem n row s (updE (updE f x u) y v)) (f a)).length - 1)) []))
theorem next_sub {n : Nat} {st : Nat → Nat → Bool} {l : List Nat} (h : ∀ t ∈ l, t < n) (hn : l.Nodup) : l.length ≤ (nextL n st l).length := by
  refine hn.length_le_of_subset fun t ht => ?_
  unfold nextL
  exact List.mem_filter.mpr ⟨List.mem_range.mpr (h t ht), by simp [ht]⟩
theorem next_ok {n : Nat} {st : Nat → Nat → Bool} {l : List Nat} : (∀ t ∈ nextL n st l, t < n) ∧ (nextL n st l).Nodup := by
  unfold nextL
  exact ⟨fun t ht => List.mem_range.mp (List.mem_filter.mp ht).1, List.nodup_range.filter _⟩
theorem next_len {n : Nat} {st : Nat → Nat → Bool} {l : List Nat} : (nextL n st l).length ≤ n := by
  unfold nextL
  have := List.length_filter_le (fun t => decide (t ∈ l) || l.any fun s => st s t) (List.range n)
  rwa [List.length_range] at this
theorem grow_len {n : Nat} {st : Nat → Nat → Bool} : ∀ (k : Nat) (l : List Nat), 1 ≤ (growL n st k l).length ∧ (growL n st k l).length ≤ k + 1
  | 0, l => ⟨Nat.le_refl _, Nat.le_refl _⟩
  | k + 1, l => by
    unfold growL
    split
    · exact ⟨Nat.le_refl _, by simp⟩
    · have := grow_len (n := n) (st := st) k (nextL n st l)
      rw [List.length_cons]; omega
end LW
set_option Elab.async false
set_option linter.all false
set_option maxRecDepth 100000
set_option maxHeartbeats 4000000
/-! while, min of two -/
namespace EV
open PySem PySem.Spec PyProof.Rows L2
section
variable {X : Cx} {L : Pl} {c : Expr} {mt : DT} {ms : DS} {pos : Pos}
abbrev dWhile (t : DT) (b : DS) : DS := fun A ρ O => ∃ W : Nat → Slots → Ow → Prop, (∃ m, W m ρ O) ∧ ∀ m ρ O, W m ρ O →
  t ρ O (fun c O1 => bc c (∃ N : Slots → Ow → Prop, (∀ r O', N r O' → ∃ m', m' < m ∧ W m' r O') ∧ b { A with nx := N, ct := N, bk := A.nx } ρ O1) (A.nx ρ O1)) (fun x O1 => A.ex x ρ O1)
theorem mo_while (ht : Mo mt) (hb : MoS ms) : MoS (dWhile mt ms) := fun A A' ρ O l ⟨W, w0, turn⟩ => ⟨W, w0, fun m ρ O w => ht _ _ _ _ _ _ (fun c O1 z => by
    cases c with
    | true =>
      obtain ⟨N, hN, z⟩ := z
      exact ⟨N, hN, hb { A with nx := N, ct := N, bk := A.nx } { A' with nx := N, ct := N, bk := A'.nx } _ _ ⟨fun _ _ y => y, l.rt, l.nx, fun _ _ y => y, l.ex⟩ z⟩
    | false => exact l.nx _ _ z) (fun x _ z => l.ex _ _ _ z) (turn m ρ O w)⟩
theorem d_while {body : List Stmt} (hp : PassesOwn (model X.prog X.w) X.A X.env X.xe) (hc : DPT X L c mt) (hb : DPSs X L body ms) : DPS X L (.While c body [] pos) (dWhile mt ms) := by
  refine ⟨mo_while hc.mo hb.mo, ps_imp (ps_while hp hc.run hb.run) fun Dn σ H ⟨G, O, ρ, gd, rs, W, ⟨m0, w0⟩, turn⟩ => ?_⟩
  refine ⟨fun m σ' H' => ∃ G' O' ρ', Step X.K L.B O G H O' G' H' ∧ RpS X.K G' σ' ρ' ∧ W m ρ' O', ⟨m0, G, O, ρ, Step.refl gd, rs, w0⟩, ?_⟩
  rintro m σ1 H1 ⟨G1, O1, ρ1, s1, rs1, w1⟩
  refine upTE hc.mo s1.good rs1 (hc.mo _ _ _ _ _ _ (fun _ _ z => z) (fun x O2 z => (dn_step s1).ex x ρ1 O2 z) (turn m ρ1 O1 w1)) fun b O2 G2 H2 z s2 => ?_
  cases b with
  | true =>
    obtain ⟨N, hN, z⟩ := z
    rw [if_pos rfl]
    have s12 := s1.trans s2
    refine ⟨fun σ' H' => ∃ G' O' ρ', Step X.K L.B O G H O' G' H' ∧ RpS X.K G' σ' ρ' ∧ N ρ' O', fun σ' H' ⟨G', O', ρ', a, b, n⟩ => ?_, ?_⟩
    · obtain ⟨m', hm, w'⟩ := hN ρ' O' n
      exact ⟨m', hm, G', O', ρ', a, b, w'⟩
    · refine ⟨G2, O2, ρ1, s2.good, rs1.step s2, hb.mo { dn X.K L O G H Dn with nx := N, ct := N, bk := (dn X.K L O G H Dn).nx } _ _ _ ⟨fun r O4 w σ4 G4 H4 s4 rs4 => ?_, fun r O4 w v G4 H4 s4 r4 => ?_, fun r O4 w σ4 G4 H4 s4 rs4 => ?_, fun r O4 w σ4 G4 H4 s4 rs4 => ?_, fun x r O4 w σ4 d fs G4 H4 s4 rs4 a b => ?_⟩ z⟩
      · exact ⟨G4, O4, r, s12.trans s4, rs4, w⟩
      · exact w v G4 H4 (s12.trans s4) r4
      · exact w σ4 G4 H4 (s12.trans s4) rs4
      · exact ⟨G4, O4, r, s12.trans s4, rs4, w⟩
      · exact w σ4 d fs G4 H4 (s12.trans s4) rs4 a b
  | false =>
    rw [if_neg (by decide)]
    exact z _ _ _ (s1.trans s2) (rs1.step s2)
/-- min of two whole numbers -/
def min2D : PC
  | [.int i, .int j], Q => Q (.int (if j < i then j else i))
  | _, _ => False
theorem cd_min2 {B : Bo} (hc : X.calm = true) : CallD X B (.builtin "min") (pc min2D) := by
  refine ⟨fun O x Q Q' q z => ?_, _, call_min2 hc, fun O G H vs ds Q g r h => ?_⟩
  · dsimp only [pc] at z ⊢; unfold min2D at z ⊢
    split at z
    · exact q _ z
    · exact z
  · dsimp only [pc] at h; unfold min2D at h
    split at h
    · cases r with
      | cons r1 r2 =>
        cases r1
        cases r2 with
        | cons r3 r4 =>
          cases r3
          cases r4
          exact ⟨_, _, rfl, h _ _ _ (Step.refl g) (.int _)⟩
    · exact h.elim
theorem go_min2 {i j : Int} {R : D → Prop} (h : R (.int (if j < i then j else i))) : min2D [.int i, .int j] R := h
end
end EV
set_option Elab.async false
set_option linter.all false
set_option maxRecDepth 100000
set_option maxHeartbeats 4000000
/-! {**d, k: v} -/
namespace PySem
open Sem (wp)
section
variable {prog : Program} {w : World} {K : Type} [DecidableEq K] {knd : KeyKind prog w K} {A : Around} {E : Value → Shared → Prop} {s : Shared}
theorem wpAny_display_star2 {m tk tv tk2 tv2 : Sem Value} {Q : Value → Shared → Prop}
    (h : wpAny (model prog w) A m (fun x s1 => ∃ o more, x = .ref o ∧ s.heap.objs.size ≠ o ∧ (o == sysModules) = false ∧ s1.heap.DictOf knd s.heap.objs.size [] ∧ s1.heap.DictOf knd o more ∧ more.length ≤ 1000 ∧
      ∀ h', h'.DictOf knd s.heap.objs.size (merged [] more) → Heap.SameBut s.heap.objs.size s1.heap h' →
        wpAny (model prog w) A (evalPairs [(tk, tv), (tk2, tv2)]) (fun vs s2 => ∃ kvs bs, Carries knd vs kvs ∧ (h'.objs.size == sysModules) = false ∧ h'.objs.size ≠ s.heap.objs.size ∧ s2.heap.DictOf knd h'.objs.size [] ∧ s2.heap.DictOf knd s.heap.objs.size bs ∧ bs.length ≤ 1000 ∧ kvs.length ≤ 2 ∧
          ∀ h2 h3, h2.DictOf knd h'.objs.size (merged [] kvs) → Heap.SameBut h'.objs.size s2.heap h2 → h3.DictOf knd s.heap.objs.size (merged bs (merged [] kvs)) → Heap.SameBut s.heap.objs.size h2 h3 →
            Q (.ref s.heap.objs.size) { s2 with heap := h3, toks := s2.toks + vs.length }) E
          { s1 with heap := h'.push { cls := .type "dict", data := .dict #[] } }) E
      { s with heap := s.heap.push { cls := .type "dict", data := .dict #[] } }) :
    wpAny (model prog w) A (dictDisplay [(none, m), (some tk, tv), (some tk2, tv2)]) Q E s := by
  unfold dictDisplay
  simp only [List.forIn_cons, List.forIn_nil, pure_bind, bind_assoc, List.isEmpty_nil, if_true]
  refine wpAny_bind (wpAny_alloc ?_)
  refine wpAny_bind (wpAny_holding (wpAny_mono h (fun x s1 hx => ?_) fun _ _ e => e))
  obtain ⟨o, more, rfl, n1, n2, d1, d2, hl, hx⟩ := hx
  refine wpAny_bind (wpAny_onRaise (wpAny_tryCatch (wpAny_onRaise (wpAny_holding (wpAny_mergeMap (knd := knd) n1 n2 d1 d2 (fun h' e1 e2 e3 => ?_) (hsz := by
    rw [List.length_nil]; exact Nat.le_trans (by omega) (show 1000 ≤ sizeLine by decide)))))))
  rw [if_neg (show ¬ ((([] : List (Sem Value × Sem Value)) ++ [(tk, tv)]).length == 17) = true from by simp)]
  simp only [pure_bind, bind_assoc]
  rw [if_neg (show ¬ (((([] : List (Sem Value × Sem Value)) ++ [(tk, tv)]) ++ [(tk2, tv2)]).length == 17) = true from by simp)]
  simp only [pure_bind, List.nil_append, List.cons_append, List.isEmpty_cons, Bool.false_eq_true, if_false, bind_assoc]
  refine wpAny_bind (wpAny_holding (wpAny_subDict (knd := knd) (by simp) (wpAny_mono (hx h' e1 e3) (fun vs s2 h2 => ?_) fun _ _ e => e)))
  obtain ⟨kvs, bs, c, k1, k2, k3, k4, k6, k5, q⟩ := h2
  refine ⟨kvs, c, k3, fun h2 a1 a2 => ?_⟩
  have m2 := merged_length_le [] kvs
  have k4' : h2.DictOf knd s.heap.objs.size bs := k4.sameBut a2 k2.symm
  refine wpAny_bind (wpAny_onRaise (wpAny_holding (wpAny_mergeMap (knd := knd) k2.symm k1 k4' a1 (fun h3 b1 b2 b3 => wpAny_pure ?_) (hsz := by
    rw [List.length_nil] at m2; exact Nat.le_trans (by omega) (show 1002 ≤ sizeLine by decide)))))
  exact q h2 h3 a1 a2 b1 b3
end
end PySem
set_option Elab.async false
set_option linter.all false
set_option maxRecDepth 100000
set_option maxHeartbeats 4000000
/-! {**d, k: v, k': v'} -/
namespace EV
open PySem PySem.Spec PyProof.Rows L2
section
variable {X : Cx}
def tMrg2 (ta tk tv tk2 tv2 : TE) : TE := fun σ H Q => ∀ p, H p = none → ta σ (upd H p (.dK [])) fun x H1 => ∃ o od kvs, x = .ref o ∧ H1 p = some (.dK []) ∧ H1 o = some (.frz od (.dK kvs)) ∧ kvs.length ≤ 1000 ∧
  ∀ q, H1 q = none → tk σ (upd (upd H1 p (.dK (mergeK [] kvs))) q (.dK [])) fun kx H2 => tv σ H2 fun vx H3 => tk2 σ H3 fun kx2 H4 => tv2 σ H4 fun vx2 H5 => ∃ key key2 bs, kx = kV key ∧ kx2 = kV key2 ∧ H5 q = some (.dK []) ∧ H5 p = some (.dK bs) ∧ bs.length ≤ 1000 ∧
    Q (.ref p) (upd (upd H5 q (.dK (mergeK [] [(key, vx), (key2, vx2)]))) p (.dK (mergeK bs (mergeK [] [(key, vx), (key2, vx2)]))))
theorem pe_mrg2 {a k v k2 v2 : Expr} {ta tk tv tk2 tv2 : TE} {pos : Pos} (ha : PE X a ta) (hk : PE X k tk) (hv : PE X v tv) (hk2 : PE X k2 tk2) (hv2 : PE X v2 tv2) : PE X (.Dict [none, some k, some k2] [a, v, v2] pos) (tMrg2 ta tk tv tk2 tv2) := by
  refine ⟨fun pins s σ H Q I h => ?_⟩
  have hn := I.hok.fresh (Nat.le_refl s.heap.objs.size)
  have I1 := I.laid (a := s.heap.objs.size) (o := .dK []) (h' := s.heap.push { cls := .type "dict", data := .dict #[] }) (t' := s.toks) (fun _ _ q => Heap.get?_push_of_some _ q) (Nat.le_refl _) (dk_empty s.heap I.big)
  rw [arm_eval_Dict]
  refine wpAny_bind (wpAny_standAt ?_)
  show wpAny _ _ (dictDisplay [(none, do let x ← eval a X.env; standAt pos; pure x), (some (eval k X.env), do let x ← eval v X.env; standAt pos; pure x), (some (eval k2 X.env), do let x ← eval v2 X.env; standAt pos; pure x)]) _ _ _
  refine wpAny_display_star2 (knd := mixKind X.prog X.w) (wpAny_bind (wpAny_mono (ha.run pins _ σ _ _ I1 (h _ hn)) (fun u s1 hz => wpAny_bind (wpAny_standAt (wpAny_pure ?_))) fun _ _ e => e))
  obtain ⟨x, H1, I2, rx, o, od, kvs, rfl, hp, ho, hl, q⟩ := hz
  obtain rfl : u = Value.ref o := rx
  obtain ⟨z1, zs, vs1, r1, d1⟩ := dk_of I2.hok hp
  cases r1
  obtain ⟨_, z2, os, vs2, r2, d2⟩ := I2.hok _ _ ho
  have lv : vs2.length = kvs.length := by rw [← r2.length]
  refine ⟨o, vs2, rfl, fun e => ?_, os, d1, d2, by omega, fun h' e1 e2 => ?_⟩
  · rw [← e, hp] at ho; cases ho
  have zk : (mergeK [] kvs).length ≤ sizeLine := by
    have e := length_mergeK kvs []
    rw [List.length_nil] at e
    exact Nat.le_trans (by omega) (show 1000 ≤ sizeLine by decide)
  have he : ∃ q, h'.get? s.heap.objs.size = some q := let ⟨q, _, _, hq, _⟩ := e1; ⟨q, hq⟩
  have I3 := d_write (t' := s1.toks) I2 (by rw [hp]; exact True.intro) e2 he (dk_new zk zs (r2.merge .nil) e1)
  have hn3 := I3.hok.fresh (Nat.le_refl h'.objs.size)
  have n3 : h'.objs.size ≠ s.heap.objs.size := fun z => by rw [z, upd_same] at hn3; cases hn3
  have I4 := I3.laid (a := h'.objs.size) (o := .dK []) (h' := h'.push { cls := .type "dict", data := .dict #[] }) (t' := s1.toks) (fun _ _ q => Heap.get?_push_of_some _ q) (Nat.le_refl _) (dk_empty h' I3.big)
  have hq := q h'.objs.size (by rw [upd_ne n3] at hn3; exact hn3)
  refine evalPairs_cons (wpAny_mono (hk.run pins _ σ _ _ I4 hq) (fun u1 s2 hz => ?_) fun _ _ e => e)
  obtain ⟨kx, H5, I5, rk, q5⟩ := hz
  refine wpAny_bind (wpAny_mono (hv.run pins _ σ _ _ I5 q5) (fun u2 s3 hz => wpAny_bind (wpAny_standAt (wpAny_pure ?_))) fun _ _ e => e)
  obtain ⟨vx, H6, I6, rv, q6⟩ := hz
  refine evalPairs_cons (wpAny_mono (hk2.run pins _ σ _ _ I6 q6) (fun u3 s4 hz => ?_) fun _ _ e => e)
  obtain ⟨kx2, H7, I7, rk2, q7⟩ := hz
  refine wpAny_bind (wpAny_mono (hv2.run pins _ σ _ _ I7 q7) (fun u4 s5 hz => wpAny_bind (wpAny_standAt (wpAny_pure (evalPairs_nil ?_)))) fun _ _ e => e)
  obtain ⟨vx2, H8, I8, rv2, key, key2, bs, rfl, rfl, e5, e6, e7, q8⟩ := hz
  obtain ⟨_, z5, vs5, r5, d5⟩ := dk_of I8.hok e5
  cases r5
  obtain ⟨_, z6, vs6, r6, d6⟩ := dk_of I8.hok e6
  have z7 : vs6.length ≤ 1000 := by rw [← r6.length]; exact e7
  refine ⟨[(key, u2), (key2, u4)], vs6, ⟨kV_is rk, rfl, kV_is rk2, rfl, trivial⟩, z5, n3, d5, d6, z7, Nat.le_refl _, fun h2 h3 a1 a2 a3 a4 => ?_⟩
  have rr : KV [(key, vx), (key2, vx2)] [(key, u2), (key2, u4)] := .cons ⟨rfl, rv⟩ (.cons ⟨rfl, rv2⟩ .nil)
  have w1 : (mergeK [] [(key, vx), (key2, vx2)]).length ≤ 2 := length_mergeK [(key, vx), (key2, vx2)] []
  have he2 : ∃ q, h2.get? h'.objs.size = some q := let ⟨q, _, _, hq, _⟩ := a1; ⟨q, hq⟩
  have I9 := d_write (t' := s5.toks) I8 (by rw [e5]; exact True.intro) a2 he2 (dk_new (Nat.le_trans w1 (by decide)) z5 (rr.merge .nil) a1)
  have he3 : ∃ q, h3.get? s.heap.objs.size = some q := let ⟨q, _, _, hq, _⟩ := a3; ⟨q, hq⟩
  have w2 : (mergeK bs (mergeK [] [(key, vx), (key2, vx2)])).length ≤ sizeLine := by
    have e := length_mergeK (mergeK [] [(key, vx), (key2, vx2)]) bs
    exact Nat.le_trans (by omega) (show 1002 ≤ sizeLine by decide)
  have I10 := d_write (t' := s5.toks + [(u1, u2), (u3, u4)].length) I9 (by rw [upd_ne n3.symm, e6]; exact True.intro) a4 he3 (dk_new w2 z6 ((rr.merge .nil).merge r6) a3)
  exact ⟨.ref _, _, I10, rfl, q8⟩
end
section
variable {X : Cx} {L : Pl}
abbrev dMrg2 (ma mk mv mk2 mv2 : DE) : DE := fun ρ O Q E => ∀ p, O p = none → ma ρ (oset O p (.dic [])) (fun x O1 => ∃ kds, x = .dic kds ∧ kds.length ≤ 1000 ∧ O1 p = some (.dic []) ∧
  ∀ q, O1 q = none → q ≠ p → mk ρ (oset (oset O1 p (.dic (mergeKD [] kds))) q (.dic [])) (fun kx O2 => mv ρ O2 (fun vx O3 => mk2 ρ O3 (fun kx2 O4 => mv2 ρ O4 (fun vx2 O5 => ∃ key key2, kx = kD key ∧ kx2 = kD key2 ∧ O5 q = some (.dic []) ∧ O5 p = some (.dic (mergeKD [] kds)) ∧
    Q (.opq (.ref p)) (odel (oset O5 p (.dic (mergeKD (mergeKD [] kds) (mergeKD [] [(key, vx), (key2, vx2)])))) q)) E) E) E) E) E
theorem mo_mrg2 {ma mk mv mk2 mv2 : DE} (ha : Mo ma) (hk : Mo mk) (hv : Mo mv) (hk2 : Mo mk2) (hv2 : Mo mv2) : Mo (dMrg2 ma mk mv mk2 mv2) := fun ρ O Q Q' E E' h hx x p n => ha ρ _ _ _ _ _ (fun _ _ ⟨kds, a, b, c, z⟩ => ⟨kds, a, b, c, fun q nq ne => hk ρ _ _ _ _ _ (fun _ _ y => hv ρ _ _ _ _ _ (fun _ _ y => hk2 ρ _ _ _ _ _ (fun _ _ y => hv2 ρ _ _ _ _ _ (fun _ _ ⟨key, key2, e0, e1, e2, e3, w⟩ => ⟨key, key2, e0, e1, e2, e3, h _ _ w⟩) hx y) hx y) hx y) hx (z q nq ne)⟩) hx (x p n)
theorem d_mrg2 {a k v k2 v2 : Expr} {ma mk mv mk2 mv2 : DE} {pos : Pos} (ha : DPE X L a ma) (hk : DPE X L k mk) (hv : DPE X L v mv) (hk2 : DPE X L k2 mk2) (hv2 : DPE X L v2 mv2) : DPE X L (.Dict [none, some k, some k2] [a, v, v2] pos) (dMrg2 ma mk mv mk2 mv2) := by
  refine ⟨mo_mrg2 ha.mo hk.mo hv.mo hk2.mo hv2.mo, pe_imp (pe_mrg2 ha.run hk.run hv.run hk2.run hv2.run) fun σ H Q ⟨G, O, ρ, g, rs, h⟩ p np => ?_⟩
  have s0 := new_own (d := .dic []) (o := .dK []) g np ⟨[], upd_same, .nil⟩
  refine up_of ha.mo s0.good (rs.step s0) (mo_step ha.mo s0 (h p (g.fresh np))) fun x xv O1 G1 H1 q1 s1 r1 => ?_
  obtain ⟨kds, rfl, hl, o1, q1⟩ := q1
  obtain ⟨nG1, nb1, kv0, hp1, rk0⟩ := s1.good.own p _ o1
  cases rk0
  cases r1 with
  | dic e1 rk =>
  refine ⟨_, _, _, rfl, hp1, s1.good.sub _ _ e1, by rw [rk.length]; exact hl, fun q nq => ?_⟩
  have nqp : q ≠ p := fun z => by rw [z, hp1] at nq; cases nq
  have s2 := Step.put (o := .dK (mergeK [] _)) (d := .dic (mergeKD [] kds)) s1.good nG1 nb1 ⟨_, upd_same, rk.merge .nil⟩ (.inl (by rw [o1]; exact Option.some_ne_none _))
  have s3 := new_own (d := .dic []) (o := .dK []) s2.good (q := q) (by rw [upd_ne nqp]; exact nq) ⟨[], upd_same, .nil⟩
  have s03 := ((s0.trans s1).trans s2).trans s3
  refine up_of hk.mo s3.good (rs.step s03) (mo_step hk.mo s03 (q1 q (s1.good.fresh nq) nqp)) fun kx kxv O2 G2 H2 q2 s4 r2 => ?_
  refine up_of hv.mo s4.good (rs.step (s03.trans s4)) (mo_step hv.mo (s03.trans s4) q2) fun vx vxv O3 G3 H3 q3 s5 r3 => ?_
  refine up_of hk2.mo s5.good (rs.step ((s03.trans s4).trans s5)) (mo_step hk2.mo ((s03.trans s4).trans s5) q3) fun kx2 kxv2 O4 G4 H4 q4 s5a r4 => ?_
  refine up_of hv2.mo s5a.good (rs.step (((s03.trans s4).trans s5).trans s5a)) (mo_step hv2.mo (((s03.trans s4).trans s5).trans s5a) q4) fun vx2 vxv2 O5 G5 H5 q5 s5b r5 => ?_
  obtain ⟨key, key2, rfl, rfl, o3, o3p, q3⟩ := q5
  obtain ⟨nGq, nbq, kvq, hq3, rq⟩ := s5b.good.own q _ o3
  cases rq
  obtain ⟨nGp, nbp, kvp, hp3, rp⟩ := s5b.good.own p _ o3p
  obtain rfl := kD_rp r2
  obtain rfl := kD_rp r4
  have lp : kvp.length ≤ 1000 := by
    have e := length_mergeKD kds []
    rw [List.length_nil] at e
    rw [rp.length]; omega
  have rr : RpK X.K G5 [(key, vxv), (key2, vxv2)] [(key, vx), (key2, vx2)] := .cons (r3.mono (s5a.trans s5b).grow) (.cons r5 .nil)
  refine ⟨key, key2, kvp, rfl, rfl, hq3, hp3, lp, ?_⟩
  have s6 := Step.put (o := .dK (mergeK [] [(key, vxv), (key2, vxv2)])) (d := .dic (mergeKD [] [(key, vx), (key2, vx2)])) s5b.good nGq nbq ⟨_, upd_same, rr.merge .nil⟩ (.inl (by rw [o3]; exact Option.some_ne_none _))
  have s7 := Step.put (p := p) (o := .dK (mergeK kvp (mergeK [] [(key, vxv), (key2, vxv2)]))) (d := .dic (mergeKD (mergeKD [] kds) (mergeKD [] [(key, vx), (key2, vx2)]))) s6.good nGp nbp ⟨_, upd_same, (rr.merge .nil).merge rp⟩ (.inl (by rw [oset_ne nqp.symm, o3p]; exact Option.some_ne_none _))
  have sub : OSub (odel (oset O5 p (.dic (mergeKD (mergeKD [] kds) (mergeKD [] [(key, vx), (key2, vx2)])))) q) (oset (oset O5 q (.dic (mergeKD [] [(key, vx), (key2, vx2)]))) p (.dic (mergeKD (mergeKD [] kds) (mergeKD [] [(key, vx), (key2, vx2)])))) := fun a d e => by
    by_cases z : a = q
    · rw [z, odel_same] at e; cases e
    · rw [odel_ne z] at e
      by_cases y : a = p
      · rw [y, oset_same] at e ⊢; exact e
      · rw [oset_ne y] at e ⊢; rw [oset_ne z]; exact e
  exact q3 _ _ _ ((((((s03.trans s4).trans s5).trans s5a).trans s5b).trans s6).trans s7 |>.frg sub) (.opq _)
end
end EV
set_option Elab.async false
set_option linter.all false
set_option maxRecDepth 100000
set_option maxHeartbeats 4000000
/-! {**d, k: v} and {**d, k: v, k': v'}, shown -/
namespace EV
open PySem PySem.Spec PyProof.Rows L2
section
variable {X : Cx} {L : Pl} {a k v k2 v2 : Expr} {ma mk mv mk2 mv2 : DE} {pos : Pos}
def dMrgF (ma mk mv : DE) : DE := dFrz (dMrg ma mk mv)
def dMrgF2 (ma mk mv mk2 mv2 : DE) : DE := dFrz (dMrg2 ma mk mv mk2 mv2)
theorem d_mrgF (ha : DPE X L a ma) (hk : DPE X L k mk) (hv : DPE X L v mv) : DPE X L (.Dict [none, some k] [a, v] pos) (dMrgF ma mk mv) := d_frz (d_mrg ha hk hv)
theorem d_mrgF2 (ha : DPE X L a ma) (hk : DPE X L k mk) (hv : DPE X L v mv) (hk2 : DPE X L k2 mk2) (hv2 : DPE X L v2 mv2) : DPE X L (.Dict [none, some k, some k2] [a, v, v2] pos) (dMrgF2 ma mk mv mk2 mv2) := d_frz (d_mrg2 ha hk hv hk2 hv2)
variable {ρ : Slots} {O : Ow} {Q : QD} {E : QX}
theorem putKD_fresh {acc : List (Key × D)} {k : Key} {z : D} (h : k ∉ acc.map (·.1)) : putKD acc k z = acc ++ [(k, z)] := by
  unfold putKD
  rw [if_neg]
  intro e
  obtain ⟨kd, h1, h2⟩ := List.any_eq_true.mp e
  exact h (by rw [← of_decide_eq_true h2]; exact List.mem_map_of_mem h1)
theorem mergeKD_id {kds : List (Key × D)} : ∀ {acc : List (Key × D)}, ((acc ++ kds).map (·.1)).Nodup → mergeKD acc kds = acc ++ kds := by
  induction kds with
  | nil => intro acc _; rw [List.append_nil]; rfl
  | cons kd kds ih =>
    intro acc h
    have hk : kd.1 ∉ acc.map (·.1) := fun m => by
      rw [List.map_append, List.map_cons] at h
      exact (List.nodup_append.mp h).2.2 _ m _ (List.mem_cons_self) rfl
    have e : mergeKD acc (kd :: kds) = mergeKD (putKD acc kd.1 kd.2) kds := rfl
    rw [e, putKD_fresh hk, ih (by simpa [List.append_assoc] using h)]
    simp
theorem odel_two {p q : Addr} {a b c d : D} (np : O p = none) (nq : O q = none) (ne : q ≠ p) : odel (odel (oset (oset (oset (oset O p a) p b) q c) p d) q) p = O := by
  funext x
  by_cases z : x = p
  · rw [z, odel_same, np]
  · rw [odel_ne z]
    by_cases y : x = q
    · rw [y, odel_same, nq]
    · rw [odel_ne y, oset_ne z, oset_ne y, oset_ne z, oset_ne z]
theorem go_mrgF (kds : List (Key × D)) (key : Key) (w : D) (hn : (kds.map (·.1)).Nodup) (hl : kds.length ≤ 1000) (ha : ∀ (O' : Ow) Q E, Q (.dic kds) O' → ma ρ O' Q E) (hk : ∀ (O' : Ow) Q E, Q (kD key) O' → mk ρ O' Q E)
    (hv : ∀ (O' : Ow) Q E, Q w O' → mv ρ O' Q E) (q : Q (.dic (putKD kds key w)) O) : dMrgF ma mk mv ρ O Q E := fun p np => ha _ _ _ ⟨kds, rfl, hl, oset_same, fun q' nq ne => hk _ _ _ (hv _ _ _ ⟨key, rfl, oset_same, by rw [oset_ne ne.symm, oset_same], p, _, rfl, by rw [odel_ne ne.symm, oset_same], by
  have e1 : mergeKD [] kds = kds := by rw [mergeKD_id (by simpa using hn), List.nil_append]
  have e2 : mergeKD kds (mergeKD [] [(key, w)]) = putKD kds key w := rfl
  rw [e1, e2, odel_two np (by rwa [oset_ne ne] at nq) ne]
  exact q⟩)⟩
theorem go_mrgF2 (kds : List (Key × D)) (key key2 : Key) (w w2 : D) (hn : (kds.map (·.1)).Nodup) (hne : key ≠ key2) (hl : kds.length ≤ 1000) (ha : ∀ (O' : Ow) Q E, Q (.dic kds) O' → ma ρ O' Q E) (hk : ∀ (O' : Ow) Q E, Q (kD key) O' → mk ρ O' Q E)
    (hv : ∀ (O' : Ow) Q E, Q w O' → mv ρ O' Q E) (hk2 : ∀ (O' : Ow) Q E, Q (kD key2) O' → mk2 ρ O' Q E) (hv2 : ∀ (O' : Ow) Q E, Q w2 O' → mv2 ρ O' Q E) (q : Q (.dic (putKD (putKD kds key w) key2 w2)) O) : dMrgF2 ma mk mv mk2 mv2 ρ O Q E :=
  fun p np => ha _ _ _ ⟨kds, rfl, hl, oset_same, fun q' nq ne => hk _ _ _ (hv _ _ _ (hk2 _ _ _ (hv2 _ _ _ ⟨key, key2, rfl, rfl, oset_same, by rw [oset_ne ne.symm, oset_same], p, _, rfl, by rw [odel_ne ne.symm, oset_same], by
    have e1 : mergeKD [] kds = kds := by rw [mergeKD_id (by simpa using hn), List.nil_append]
    have e2 : mergeKD [] [(key, w), (key2, w2)] = [(key, w), (key2, w2)] := by rw [mergeKD_id (by simp [hne]), List.nil_append]
    have e3 : mergeKD kds (mergeKD [] [(key, w), (key2, w2)]) = putKD (putKD kds key w) key2 w2 := by rw [e2]; rfl
    rw [e1, e3, odel_two np (by rwa [oset_ne ne] at nq) ne]
    exact q⟩)))⟩
end
end EV
set_option Elab.async false
set_option linter.all false
set_option maxRecDepth 100000
set_option maxHeartbeats 4000000
/-! xs[i] = v of one's own list -/
namespace EV
open PySem PySem.Spec PyProof.Rows L2
section
variable {X : Cx} {L : Pl} {a b c : Expr} {ma mb mc : DE} {pos pos' : Pos}
abbrev dLPut (ma mb mv : DE) : DS := fun A ρ O => mv ρ O (fun v O1 => ma ρ O1 (fun x O2 => mb ρ O2 (fun y O3 => ∃ p xs k j, x = .opq (.ref p) ∧ y = .int k ∧ O3 p = some (.lst xs) ∧ ixN xs.length k = some j ∧ A.nx ρ (oset O3 p (.lst (xs.set j v)))) (fun x O => A.ex x ρ O)) (fun x O => A.ex x ρ O)) (fun x O => A.ex x ρ O)
theorem d_lput (ha : DPE X L a ma) (hb : DPE X L b mb) (hv : DPE X L c mc) (hA : ∀ v, assign (.Subscript a b pos') X.env v = (do
      let ov ← holding [v] (eval a X.env)
      let iv ← holding [v, ov] (eval b X.env)
      standAt pos'
      holding [v, ov, iv] (setItem ov iv v)
      release [v, ov, iv] [])) (hs : swapsWithSole [.Subscript a b pos'] c pos.line X.env = pure false) (hw : swappedStores [.Subscript a b pos'] c X.env = pure none) : DPS X L (.Assign [.Subscript a b pos'] c pos) (dLPut ma mb mc) := by
  refine ⟨fun A A' ρ O l z => hv.mo _ _ _ _ _ _ (fun v _ y => ha.mo _ _ _ _ _ _ (fun x _ y => hb.mo _ _ _ _ _ _ (fun k _ ⟨p, xs, i, j, e1, e2, e3, e4, z⟩ => ⟨p, xs, i, j, e1, e2, e3, e4, l.nx _ _ z⟩) (fun x _ y => l.ex _ _ _ y) y) (fun x _ y => l.ex _ _ _ y) y) (fun x _ y => l.ex _ _ _ y) z, ps_imp (ps_asg hv.run (pg_sub ha.run hb.run set_list hA) hs hw) fun Dn σ H ⟨G, O, ρ, g, rs, q⟩ => ?_⟩
  refine upE hv.mo g rs q fun v vv O1 G1 H1 q1 s1 r1 => ?_
  refine upE ha.mo s1.good (rs.step s1) (ha.mo _ _ _ _ _ _ (fun x O2 y => hb.mo _ _ _ _ _ _ (fun k O3 y => y) (fun x O z => (dn_step s1).ex x ρ O z) y) (fun x O z => (dn_step s1).ex x ρ O z) q1) fun x vx O2 G2 H2 q2 s2 r2 => ?_
  have s12 := s1.trans s2
  refine upE hb.mo s2.good (rs.step s12) (hb.mo _ _ _ _ _ _ (fun k O3 y => y) (fun x O z => (dn_step s2).ex x ρ O z) q2) fun y vy O3 G3 H3 q3 s3 r3 => ?_
  have s13 := s12.trans s3
  obtain ⟨p, xs, k, j, rfl, rfl, eo, ej, z⟩ := q3
  cases r2
  cases r3
  obtain ⟨nG, nb, vs, hp, rl⟩ := s3.good.own p _ eo
  have rv := r1.mono (s2.trans s3).grow
  have st := Step.put (o := .lst (vs.set j vv)) (d := .lst (xs.set j v)) s3.good nG nb ⟨_, upd_same, RpL.set rv j rl⟩ (.inl (by rw [eo]; exact Option.some_ne_none _))
  exact ⟨p, vs, k, j, rfl, rfl, hp, by rw [rl.length]; exact ej, z _ _ _ (s13.trans st) (rs.step (s13.trans st))⟩
end
section
variable {ρ : Slots} {O : Ow} {p : Addr} {d : D}
theorem go_lput {xs : List D} {i : Nat} {R : Addr → List D → Nat → Prop} (e : O p = some (.lst xs)) (hi : i < xs.length) (h : R p xs i) : ∃ p' xs' k j, D.opq (.ref p) = .opq (.ref p') ∧ D.int (i : Int) = .int k ∧ O p' = some (.lst xs') ∧ ixN xs'.length k = some j ∧ R p' xs' j := by
  refine ⟨p, xs, i, i, rfl, rfl, e, ?_, h⟩
  unfold ixN
  rw [if_pos (by omega)]
  rw [if_pos (by omega)]
  rfl
end
end EV
set_option Elab.async false
set_option linter.all false
set_option maxRecDepth 100000
set_option maxHeartbeats 4000000
/-! list(range(n)) -/
namespace EV
open PySem PySem.Spec PyProof.Rows L2
section
variable {X : Cx} {L : Pl} {a : Expr} {ma : DE} {p p2 pos pos2 : Pos}
abbrev dListRg (ma : DE) : DE := fun ρ O Q E => ma ρ O (fun x O1 => ∃ n : Nat, x = .int n ∧ n ≤ 1000000 ∧ Q (.lst (rngD 0 n)) O1) E
theorem rl_rg {K : PySem.W.Frag} {G : Hp} {n : Nat} : RpL K G (rgV 0 (n : Int)) (rngD 0 n) := by
  have h : ∀ l : List Nat, RpL K G (l.map fun i : Nat => V.int (0 + (i : Nat))) (l.map fun i : Nat => D.int (0 + (i : Nat))) := by
    intro l
    induction l with
    | nil => exact .nil
    | cons x r ih => exact .cons (.int _) ih
  unfold rgV rngD
  rw [show ((n : Int) - 0).toNat = n by omega]
  exact h _
theorem d_listRg (hc : X.calm = true) (hg : Gl X "list") (hm : X.mg "list" = none) (hg2 : Gl X "range") (hm2 : X.mg "range" = none) (ha : DPE X L a ma) (na : starEach [a] X.env = (false, eval a X.env) :: starEach [] X.env)
    (nb : starEach [.Call (.Name "range" p2) [a] [] pos2] X.env = (false, eval (.Call (.Name "range" p2) [a] [] pos2) X.env) :: starEach [] X.env) : DPE X L (.Call (.Name "list" p) [.Call (.Name "range" p2) [a] [] pos2] [] pos) (dListRg ma) := by
  refine ⟨fun ρ O Q Q' E E' q hx x => ha.mo ρ _ _ _ _ _ (fun _ _ ⟨n, e, h, z⟩ => ⟨n, e, h, q _ _ z⟩) hx x, pe_imp (pe_listRg hc hg hm (prg_1 hg2 hm2 ha.run na) nb) fun σ H Q ⟨G, O, ρ, g, rs, q⟩ => ?_⟩
  refine up_of ha.mo g rs q fun x vx O1 G1 H1 q1 s1 r1 => ?_
  obtain ⟨n, rfl, hn, q1⟩ := q1
  cases r1
  refine ⟨n, rfl, RgOk.of_le (by omega) (by omega) (by omega) (by omega), fun q nq => ?_⟩
  exact q1 _ _ _ (s1.trans (Step.new s1.good nq)) (new_lst s1.good nq rl_rg)
end
end EV
set_option Elab.async false
set_option linter.all false
set_option maxRecDepth 100000
set_option maxHeartbeats 4000000
/-! dict(d), a copy, one's own; sum(ints) -/
namespace EV
open PySem PySem.Spec PyProof.Rows L2
end EV
set_option Elab.async false
set_option linter.all false
set_option maxRecDepth 100000
set_option maxHeartbeats 4000000
/-! more rules for walking -/
namespace EV
open PySem PySem.Spec PyProof.Rows L2
section
variable {ρ : Slots} {O : Ow} {Q : QD} {E : QX} {R : D → Prop} {xs ys : List D}
theorem go_slT {lo hi : Option Int} (e : cutD xs lo hi = ys) (ne : ¬ (HT.sIx xs.length 0 lo = 0 ∧ HT.sIx xs.length xs.length hi = xs.length)) (h : R (.tup ys)) : slD (.tup xs) lo hi R := by subst e; exact ⟨ne, h⟩
theorem go_slL {lo hi : Option Int} (e : cutD xs lo hi = ys) (h : R (.lst ys)) : slD (.lst xs) lo hi R := by subst e; exact h
theorem go_lcNil {I : Ow → Prop} {g : DG} {tt : DT} {te : DE} {acc : List D} {Q : List D → Ow → Prop} (hI : I O) (h : Q acc O) : lcW I g tt te ρ [] acc O Q := ⟨hI, h⟩
theorem go_lcCons {I : Ow → Prop} {g : DG} {tt : DT} {te : DE} {d : D} {ds acc : List D} {Q : List D → Ow → Prop} (h : I O ∧ g d ρ fun ρ' => tt ρ' O (fun c O1 => bc c (te ρ' O1 (fun y O2 => acc.length < sizeLine ∧ lcW I g tt te ρ ds (acc ++ [y]) O2 Q) (fun _ _ => False)) (lcW I g tt te ρ ds acc O1 Q)) (fun _ _ => False)) : lcW I g tt te ρ (d :: ds) acc O Q := h
abbrev natD (t : Nat) : D := .int (t : Int)
theorem rng_nats (n : Nat) : rngD 0 n = (List.range n).map natD := by
  unfold rngD
  refine List.map_congr_left fun i _ => ?_
  rw [Int.zero_add]
theorem atI_neg {pre suf : List D} {v : D} {k : Nat} (hk : suf.length + 1 = k) : atI (pre ++ v :: suf) (-(k : Int)) = some v := by
  have hl : (pre ++ v :: suf).length = pre.length + k := by rw [List.length_append, List.length_cons]; omega
  unfold atI ixN
  rw [if_neg (by omega), if_pos (by rw [hl]; omega)]
  show (pre ++ v :: suf)[(-(k : Int) + ((pre ++ v :: suf).length : Int)).toNat]? = some v
  rw [hl, show (-(k : Int) + ((pre.length + k : Nat) : Int)).toNat = pre.length by omega]
  rw [List.getElem?_append_right (Nat.le_refl _)]
  simp
/-- [x for x in nats if p x] -/
theorem lc_filt {g : DG} {tt : DT} {te : DE} {l : List Nat} (p : Nat → Bool) {Q : List D → Ow → Prop} (h : ∀ t ∈ l, ∀ (Qy : QD) (Qs : Ow → Prop), (p t = true → Qy (natD t) O) → (p t = false → Qs O) → elW g tt te ρ (natD t) O Qy Qs) (hl : l.length ≤ 1000) (q : Q ((l.filter p).map natD) O) : lcW tt1 g tt te ρ (l.map natD) [] O Q := by
  have nz : ∀ t : Nat, (match natD t with
    | .int i => i.toNat
    | _ => 0) = t := fun t => Int.toNat_natCast t
  refine lcW_fm (I := tt1) trivial (fun d => if p (match d with
    | .int i => i.toNat
    | _ => 0) = true then some d else none) (fun d hd Qy Qs h1 h2 => ?_) (by rw [List.length_map]; exact szk' (by simpa using hl)) ?_
  · obtain ⟨t, ht, rfl⟩ := List.mem_map.mp hd
    refine h t ht Qy Qs (fun e => h1 _ ?_) (fun e => h2 ?_)
    · rw [nz, if_pos e]
    · rw [nz, if_neg (by rw [e]; decide)]
  · have e : (l.map natD).filterMap (fun d => if p (match d with
      | .int i => i.toNat
      | _ => 0) = true then some d else none) = (l.filter p).map natD := by
      clear h hl q
      rw [List.filterMap_map]
      induction l with
      | nil => rfl
      | cons t l ih =>
        rw [List.filterMap_cons, List.filter_cons, ih]
        have e1 : ((fun d => if p (match d with
          | .int i => i.toNat
          | _ => 0) = true then some d else none) ∘ natD) t = if p t = true then some (natD t) else none := by
          show (if p (match natD t with
            | .int i => i.toNat
            | _ => 0) = true then some (natD t) else none) = _
          rw [nz]
        rw [e1]
        cases p t <;> rfl
    rw [List.nil_append, e]; exact q
theorem toPs_nats : ∀ l : List Nat, toPs (l.map natD) = some (l.map fun t : Nat => PyData.int (t : Int))
  | [] => rfl
  | x :: l => by rw [List.map_cons, toPs, toPs_nats l]; rfl
theorem shp_nats (l : List Nat) : SeqAt.shaped (.list (l.map fun t : Nat => PyData.int (t : Int))) = true := by
  have h : ∀ l : List Nat, PyData.canLayAll0 (l.map fun t : Nat => PyData.int (t : Int)) = true ∧ PyData.depthAll (l.map fun t : Nat => PyData.int (t : Int)) ≤ 1 := by
    intro l
    induction l with
    | nil => simp [PyData.canLayAll0, PyData.depthAll]
    | cons x r ih => simp [PyData.canLayAll0, PyData.depthAll, PyData.canLay0, PyData.depth, ih]
  have := h l
  simp [SeqAt.shaped, PyData.canLay0, PyData.depth, this.1]
  omega
/-- t in nats -/
theorem in_nats {t : Nat} {l : List Nat} (q : R (.bl (decide (t ∈ l)))) : inLTD (natD t) (.lst (l.map natD)) R := by
  refine ⟨l.map natD, .inl rfl, .int t, l.map fun t : Nat => PyData.int (t : Int), rfl, toPs_nats l, by rfl, shp_nats l, ?_⟩
  have e : ((l.map fun t : Nat => PyData.int (t : Int)).any fun z => PyData.eqv z (.int t)) = decide (t ∈ l) := by
    rw [List.any_map, Bool.eq_iff_iff, List.any_eq_true, decide_eq_true_eq]
    constructor
    · rintro ⟨z, hz, e⟩
      have : (z : Int) = t := by simpa [Function.comp, PyData.eqv] using e
      have : z = t := by omega
      rw [← this]; exact hz
    · exact fun h => ⟨t, h, by simp [PyData.eqv]⟩
  rw [e]; exact q
end
end EV
set_option Elab.async false
set_option linter.all false
set_option maxRecDepth 100000
set_option maxHeartbeats 4000000
set_option pp.maxSteps 1500
/-! passes, has_row, atom_holds, named, places, check_fit, check_inputs, Question.tables -/
namespace LW
open PySem PySem.Spec PyProof.Rows L2 EV PySem.XO PySem.W LamX
local macro_rules | `(tactic| walk_at "fd") => `(tactic| first | assumption | rfl)
local macro_rules | `(tactic| walk_at "ow") => `(tactic| first | assumption | exact oset_self | (rw [oset_ne (by assumption)]; walk_at "ow") | (rw [oset_ne (Ne.symm (by assumption))]; walk_at "ow"))
local macro_rules | `(tactic| walk_at "ix") => `(tactic| first | exact EV.ga0 | exact EV.ga1 | exact EV.ga2 | exact EV.ga3 | exact EV.ga4 | exact EV.ga5 | exact EV.ga6 | exact EV.ga7 | exact EV.ga8 | exact EV.ga9 | exact EV.ga10 | exact EV.ga11 | exact EV.ga12 | exact EV.ga13 | exact EV.ga14 | exact EV.ga15 | assumption | rfl)
local macro_rules | `(tactic| walk_at "sz") => `(tactic| first | exact trivial | (with_reducible assumption) | omega | ((with_reducible refine szR ?_); exact rfl) | ((with_reducible refine szk' ?_); omega) | ((with_reducible refine szl ?_); omega) | exact szlt rfl | rfl | exact ⟨rfl, by assumption⟩ | exact ⟨rfl, rfl⟩ | exact ⟨_, rfl⟩ | ((with_reducible refine szk' ?_); simp only [List.length_cons, List.length_nil, List.length_append, List.length_map]; omega) | (unfold CMul; omega) | (unfold CDiv; omega) | (unfold CPow; exact ⟨by omega, by omega, by omega⟩) | (constructor; · omega; · omega))
local macro_rules | `(tactic| walk_at "val") => `(tactic| first | assumption | exact rfl)
local macro_rules | `(tactic| walk_at "ty") => `(tactic| first | assumption | exact rfl)
local macro_rules | `(tactic| walk_at "bt") => `(tactic| first | exact rfl | assumption)
local macro_rules | `(tactic| walk_at "n") => `(tactic| refine st_norm (by simp only [List.set_cons_succ, List.set_cons_zero]; rfl) ?_)
local macro_rules | `(tactic| walk_at "wh") => `(tactic| with_reducible conv => whnf)
local macro_rules | `(tactic| walk_at "call") => `(tactic| fail)
local macro_rules | `(tactic| walk_at "go1") => `(tactic| first
  | ((with_reducible apply go_var); (· exact rfl))
  | ((with_reducible apply go_varF); (· exact rfl); (· walk_at "ow"))
  | ((with_reducible apply go_set); (· (simp only [wipeD, List.map_cons, List.map_nil, List.set_cons_succ, List.set_cons_zero]; rfl)))
  | ((with_reducible apply go_fld); (· walk_at "fd"))
  | ((with_reducible apply go_fldH); (· walk_at "ow"); (· walk_at "fd"))
  | ((with_reducible apply go_ixT); (· walk_at "ix"))
  | ((with_reducible apply go_ixL); (· walk_at "ix"))
  | ((with_reducible apply go_ixH); (· walk_at "ow"); (· walk_at "ix"))
  | ((with_reducible apply go_bcT); (· walk_at "bt"))
  | ((with_reducible apply go_bcF); (· walk_at "bt"))
  | ((with_reducible apply go_methH); (· walk_at "ow"); (· walk_at "fd"))
  | ((with_reducible apply And.intro); (· walk_at "sz"))
  | ((with_reducible apply go_lm); (· walk_at "ow"))
  | ((with_reducible apply go_lm2); (· walk_at "ow"))
  | ((with_reducible apply go_app); (· walk_at "sz"))
  | ((with_reducible apply go_ext); (· walk_at "sz"))
  | ((with_reducible apply go_setF); (· walk_at "ow"))
  | ((with_reducible apply go_frz); (· walk_at "ow"))
  | ((with_reducible apply go_atK); (· walk_at "val"))
  | ((with_reducible apply go_atS); (· walk_at "val"))
  | ((with_reducible apply go_atI); (· walk_at "val"))
  | ((with_reducible apply go_atHK); (· walk_at "ow"); (· walk_at "val"))
  | ((with_reducible apply go_atHS); (· walk_at "ow"); (· walk_at "val"))
  | ((with_reducible apply go_dputS); (· walk_at "ow"); (· walk_at "sz"))
  | ((with_reducible apply go_dputK); (· walk_at "ow"); (· walk_at "sz"))
  | (with_reducible apply go_eqI)
  | (with_reducible apply go_eqS)
  | (with_reducible apply go_eqB)
  | (with_reducible apply go_neg)
  | (with_reducible apply go_lenL)
  | (with_reducible apply go_lenT)
  | ((with_reducible apply go_lenS); (· walk_at "sz"))
  | ((with_reducible apply go_lenH); (· walk_at "ow"))
  | (with_reducible apply go_tupL)
  | (with_reducible apply go_tupT)
  | ((with_reducible apply go_tupH); (· walk_at "ow"))
  | (with_reducible apply go_listL)
  | (with_reducible apply go_listT)
  | ((with_reducible apply go_listH); (· walk_at "ow"))
  | (with_reducible apply go_all)
  | (with_reducible apply go_any)
  | ((with_reducible apply go_isi); (· exact rfl); (· walk_at "ty"); (· walk_at "val"))
  | ((with_reducible apply go_inS); (· exact rfl))
  | ((with_reducible apply go_inSL); (· exact rfl))
  | ((with_reducible apply go_sortS); (· walk_at "sz"))
  | (with_reducible apply go_own)
  | (with_reducible apply go_pnil)
  | (with_reducible apply go_pcons)
  | ((with_reducible apply go_lcNil); (· exact trivial))
  | (with_reducible apply go_lcCons)
  | (with_reducible apply go_min2)
  | walk_at "call")
local macro_rules | `(tactic| walk_at "go") => `(tactic| (walk_at "wh"; repeat (walk_at "go1"; walk_at "wh")))
abbrev s_passes : Stmt := topS 39
abbrev N_passes : List Str := ["test", "many"]
theorem sc_passes : FnScope N_passes ["test", "many"] (defScope s_passes) := ⟨rfl, rfl, rfl, by decide +kernel, rfl, by decide +kernel, by decide +kernel⟩
abbrev s_Store_has_row : Stmt := clsS 31 8
abbrev N_Store_has_row : List Str := ["self", "name", "row"]
theorem sc_Store_has_row : FnScope N_Store_has_row ["self", "name", "row"] (defScope s_Store_has_row) := ⟨rfl, rfl, rfl, by decide +kernel, rfl, by decide +kernel, by decide +kernel⟩
abbrev s_atom_holds : Stmt := topS 40
abbrev N_atom_holds : List Str := ["store", "saying", "things", "one", "other", "name"]
theorem sc_atom_holds : FnScope N_atom_holds ["store", "saying", "things"] (defScope s_atom_holds) := ⟨rfl, rfl, rfl, by decide +kernel, rfl, by decide +kernel, by decide +kernel⟩
abbrev s_named : Stmt := topS 43
abbrev N_named : List Str := ["question", "inputs", "name", "thing"]
theorem sc_named : FnScope N_named ["question", "inputs"] (defScope s_named) := ⟨rfl, rfl, rfl, by decide +kernel, rfl, by decide +kernel, by decide +kernel⟩
abbrev s_Store_places : Stmt := clsS 31 4
abbrev N_Store_places : List Str := ["self", "name"]
theorem sc_Store_places : FnScope N_Store_places ["self", "name"] (defScope s_Store_places) := ⟨rfl, rfl, rfl, by decide +kernel, rfl, by decide +kernel, by decide +kernel⟩
def rowT (t : Tb) : Str → List Int → Bool := fun x r => decide (r ∈ (getT t x).2)
def passS : DSp := fun ds O Q _ => ∃ (k : Tst) (m : Nat), ds = [k.d, .int m] ∧ k.ok = true ∧ Q (.bl (k.pass m)) O
def hasS (C : Addr) : DSp := fun ds O Q _ => ∃ (n : Nat) (t : Tb) (x : Str) (p : Nat) (rs : List (List Int)) (r : List Int), ds = [.ins C (stF n (kdsOf t)), .str x, rowD r] ∧ Gd n t ∧ (x, p, rs) ∈ t ∧ Q (.bl (decide (r ∈ rs))) O
/-- the tables of a saying are there -/
def FitT (t : Tb) (s : Say Str) : Prop := ∀ q ∈ s.tabs, ∃ rs, (q.1, q.2, rs) ∈ t
def isAtom : Say Str → Bool
  | .has _ _ => true
  | .link _ _ _ => true
  | .same _ _ => true
  | .less _ _ => true
  | _ => false
def atomS (C : Addr) : DSp := fun ds O Q _ => ∃ (n : Nat) (t : Tb) (s : Say Str) (e : En), ds = [.ins C (stF n (kdsOf t)), s.d, .dic (envK e)] ∧ Gd n t ∧ FitT t s ∧ isAtom s = true ∧ s.ok (nmsE e) = true ∧ Q (.bl (sem n (rowT t) s (getE e))) O
def namedS (C : Addr) : DSp := fun ds O Q _ => ∃ (ns : List Str) (s : Say Str) (is : List Nat) (d : D), ds = [qsD C ns s, d] ∧ Seq d (is.map natD) ∧ ns.length = is.length ∧ ns.length ≤ 3 ∧ ns.Nodup ∧ Q (.dic (envK (ns.zip is))) O
def placesS (C : Addr) : DSp := fun ds O Q _ => ∃ (n : Nat) (t : Tb) (x : Str) (p : Nat) (rs : List (List Int)), ds = [.ins C (stF n (kdsOf t)), .str x] ∧ Gd n t ∧ (x, p, rs) ∈ t ∧ Q (.int p) O
theorem rowT_in {t : Tb} (hn : (nmsT t).Nodup) {x : Str} {p : Nat} {rs : List (List Int)} (h : (x, p, rs) ∈ t) (r : List Int) : rowT t x r = decide (r ∈ rs) := by
  unfold rowT
  rw [show getT t x = (p, rs) from get_T hn h]
theorem decN (a b : Nat) : decide ((a : Int) = (b : Int)) = decide (a = b) := decide_eq_decide.mpr (by omega)
theorem decL (a b : Nat) : decide ((a : Int) < (b : Int)) = decide (a < b) := decide_eq_decide.mpr (by omega)
theorem decE (a b : Nat) : decide ((a : Int) ≤ (b : Int)) = decide (a ≤ b) := decide_eq_decide.mpr (by omega)
/-! ### dict comprehensions -/
def foldK {α : Type} (fz : α → Option (Key × D)) (acc : List (Key × D)) (l : List α) : List (Key × D) := l.foldl (fun acc z => match fz z with
  | some kv => putKD acc kv.1 kv.2
  | none => acc) acc
theorem dcW_fold {α : Type} {O : Ow} {ρ : Slots} {g : DG} {tt : DT} {tk te : DE} (df : α → D) (fz : α → Option (Key × D)) {Q : List (Key × D) → Ow → Prop} : ∀ {l : List α} {acc : List (Key × D)},
    (∀ z ∈ l, ∀ (Qz : D → D → Ow → Prop) (Qs : Ow → Prop), (∀ k v, fz z = some (k, v) → Qz (kD k) v O) → (fz z = none → Qs O) → g (df z) ρ fun ρ' => tt ρ' O (fun c O1 => bc c (tk ρ' O1 (fun y O2 => te ρ' O2 (fun w O3 => Qz y w O3) (fun _ _ => False)) (fun _ _ => False)) (Qs O1)) (fun _ _ => False)) →
    acc.length + l.length ≤ 1000 → Q (foldK fz acc l) O → dcW tt1 g tt tk te ρ (l.map df) acc O Q
  | [], acc, _, _, q => ⟨trivial, q⟩
  | z :: l, acc, h, hl, q => by
    rw [List.length_cons] at hl
    refine ⟨trivial, h z List.mem_cons_self _ _ (fun k v e => ⟨k, rfl, szl (by omega), dcW_fold df fz (fun y hy => h y (List.mem_cons_of_mem _ hy)) ?_ ?_⟩) (fun e => dcW_fold df fz (fun y hy => h y (List.mem_cons_of_mem _ hy)) (by omega) ?_)⟩
    · have := length_putKD acc k v; omega
    · unfold foldK at q ⊢
      rw [List.foldl_cons, e] at q; exact q
    · unfold foldK at q ⊢
      rw [List.foldl_cons, e] at q; exact q
theorem foldK_new {α : Type} (kf : α → Key) (vf : α → D) : ∀ {l : List α} {acc : List (Key × D)}, (acc.map (·.1) ++ l.map kf).Nodup → foldK (fun z => some (kf z, vf z)) acc l = acc ++ l.map fun z => (kf z, vf z)
  | [], acc, _ => by rw [List.map_nil, List.append_nil]; rfl
  | z :: l, acc, h => by
    have hk : kf z ∉ acc.map (·.1) := fun m => (List.nodup_append.mp h).2.2 _ m _ (by simp) rfl
    have e : foldK (fun z => some (kf z, vf z)) acc (z :: l) = foldK (fun z => some (kf z, vf z)) (putKD acc (kf z) (vf z)) l := rfl
    rw [e, putKD_fresh hk, foldK_new kf vf (by simpa [List.append_assoc] using h)]
    simp
theorem go_zip {a b : D} {xs ys : List D} {Q : IL → Prop} (ha : Seq a xs) (hb : Seq b ys) (h : Q (tt1, zipL xs ys)) : zipD [a, b] Q := by
  rcases ha with rfl | rfl <;> rcases hb with rfl | rfl <;> exact h
theorem zip_strs : ∀ (ns : List Str) (is : List Nat), zipL (ns.map D.str) (is.map natD) = (ns.zip is).map fun z => D.tup [.str z.1, natD z.2]
  | [], is => by simp [zipL]
  | _ :: _, [] => by simp [zipL]
  | x :: ns, i :: is => by
    have := zip_strs ns is
    unfold zipL at this ⊢
    rw [List.map_cons, List.map_cons, List.zipWith_cons_cons, List.zip_cons_cons, List.map_cons, this]
theorem zip_nms : ∀ {ns : List Str} {is : List Nat}, ns.length = is.length → nmsE (ns.zip is) = ns
  | [], _, _ => by simp [nmsE]
  | _ :: _, [], h => by simp at h
  | x :: ns, i :: is, h => by
    have := zip_nms (ns := ns) (is := is) (by simpa using h)
    unfold nmsE at this ⊢
    rw [List.zip_cons_cons, List.map_cons, this]
section
variable {P : Program} {w : World} {K : PySem.W.Frag} {mg : Str → Option Value} {base : Heap}
theorem ok_passes {f : Addr} {fd : FuncData} (F : Fun K "passes" "passes" s_passes f fd) : FnOk P w K mg base CX0 1 f fd ["test", "many"] (spD K passS) := by
  refine fn_pure F sc_passes (fun ds O Q E h => ?_) (fun cdv A outer s H E hr =>
    (d_scons (d_ifS (d_tcmp (od_eq hr.units) (d_ix (d_var (i := 0) rfl (.inl rfl) (by decide) (by decide)) d_int (fun _ _ => rfl)) d_str (nomark _)) (d_sone (d_ret (d_cmp od_ge (d_var (i := 1) rfl (.inl rfl) (by decide) (by decide)) (d_ix (d_var (i := 0) rfl (.inl rfl) (by decide) (by decide)) d_int (fun _ _ => rfl)) (nomark _)))) d_snil)
      (d_sone (d_ret (d_if (d_tcmp (od_eq hr.units) (d_ix (d_var (i := 0) rfl (.inl rfl) (by decide) (by decide)) d_int (fun _ _ => rfl)) d_str (nomark _)) (d_cmp od_le (d_var (i := 1) rfl (.inl rfl) (by decide) (by decide)) (d_ix (d_var (i := 0) rfl (.inl rfl) (by decide) (by decide)) d_int (fun _ _ => rfl)) (nomark _)) (d_cmp (od_eq hr.units) (d_op od_mod (d_var (i := 1) rfl (.inl rfl) (by decide) (by decide)) (d_ix (d_var (i := 0) rfl (.inl rfl) (by decide) (by decide)) d_int (fun _ _ => rfl))) (d_ix (d_var (i := 0) rfl (.inl rfl) (by decide) (by decide)) d_int (fun _ _ => rfl)) (nomark _))))))) (fun ds O Q E h => ?_) (fun ds O Q E h => h)
  · obtain ⟨k, m, rfl, _⟩ := h; rfl
  · obtain ⟨k, m, rfl, hk, q⟩ := h
    rw [show startD N_passes [k.d, .int m] = [.sh k.d, .sh (.int m)] from rfl]
    cases k with
    | least k =>
      dsimp only [Tst.d]
      walk_at "go"
      show Q (.bl (decide ((k : Int) ≤ (m : Int)))) O
      rw [decE]; exact q
    | most k =>
      dsimp only [Tst.d]
      walk_at "go"
      show Q (.bl (decide ((m : Int) ≤ (k : Int)))) O
      rw [decE]; exact q
    | rest k r =>
      dsimp only [Tst.d]
      simp only [Tst.ok, Bool.and_eq_true, decide_eq_true_eq] at hk
      walk_at "go"
      rw [show ((m : Int) % (k : Int)) = ((m % k : Nat) : Int) by omega]
      show Q (.bl (decide (((m % k : Nat) : Int) = (r : Int)))) O
      rw [decN]; exact q
theorem ok_has_row {f C : Addr} {fd : FuncData} (F : Fun K "has_row" "Store.has_row" s_Store_has_row f fd) (CL_Store : Cls K C) (NA_Store__tables : NoAttr K C "_tables") :
    FnOk P w K mg base CX0 1 f fd ["self", "name", "row"] (spD K (hasS C)) := by
  refine fn_pure F sc_Store_has_row (fun ds O Q E h => ?_) (fun cdv A outer s H E hr =>
    (d_sone (d_ret (d_cmp (od_inLT (hu1 hr)) (d_var (i := 2) rfl (.inl rfl) (by decide) (by decide)) (d_ix (d_dget (hud hr) (d_fld CL_Store NA_Store__tables (d_var (i := 0) rfl (.inl rfl) (by decide) (by decide)) rfl) (d_var (i := 1) rfl (.inl rfl) (by decide) (by decide)) (fun _ _ => rfl)) d_int (fun _ _ => rfl)) rfl)))) (fun ds O Q E h => ?_) (fun ds O Q E h => h)
  · obtain ⟨n, t, x, p, rs, r, rfl, _⟩ := h; rfl
  · obtain ⟨n, t, x, p, rs, r, rfl, g, hx, q⟩ := h
    rw [show startD N_Store_has_row [.ins C (stF n (kdsOf t)), .str x, rowD r] = [.sh (.ins C (stF n (kdsOf t))), .sh (.str x), .sh (rowD r)] from rfl]
    have hf := (stF_T g).tb
    have hv := val_in g.canon.nd (mem_canon g.nd hx)
    walk_at "go"
    refine in_rows (.inl rfl) ?_
    have e : decide (r ∈ srtI rs) = decide (r ∈ rs) := decide_eq_decide.mpr (srtI_perm rs).mem_iff
    rw [e]; exact q
theorem ok_places {f fT C : Addr} {fd fdT : FuncData} {A : Str → Addr} (F : Fun K "places" "Store.places" s_Store_places f fd)
    (G_Store__table : FnOk P w K mg base (L2.CX P w) 4 fT fdT ["self", "name"] (spD K (tblS A C))) (ME_Store__table : Meth K C "_table" fT) (B_Store__table : Binds K fdT ["self", "name"] []) (CL_Store : Cls K C) :
    FnOk P w K mg base (L2.CX P w) 6 f fd ["self", "name"] (spD K (placesS C)) := by
  refine fn_exc F sc_Store_places (fun ds O Q E h => ?_) (fun cdv A outer s H E hr tk =>
    (d_sone (d_ret (d_ix (d_meth (fun _ => rfl) CL_Store ME_Store__table G_Store__table (hr.mono (by decide)) B_Store__table (fun pins σ H' s1 e s' I c => tk_pass tk σ pins H' s1 e s' I c) (d_var (i := 0) rfl (.inl rfl) (by decide) (by decide)) (d_cons (d_var (i := 1) rfl (.inl rfl) (by decide) (by decide)) d_nil rfl) rfl rfl rfl) d_int (fun _ _ => rfl))))) (fun ds O Q E h => ?_)
  · obtain ⟨n, t, x, p, rs, rfl, _⟩ := h; rfl
  · obtain ⟨n, t, x, p, rs, rfl, g, hx, q⟩ := h
    rw [show startD N_Store_places [.ins C (stF n (kdsOf t)), .str x] = [.sh (.ins C (stF n (kdsOf t))), .sh (.str x)] from rfl]
    have hv := val_in g.canon.nd (mem_canon g.nd hx)
    walk_at "go"
    refine spM.of ⟨_, kdsOf (canonT t), .str x, rfl, (stF_T g).tb, rfl, fun y t' e1 e2 => ?_, fun h => absurd hv (h x _ rfl)⟩
    cases e1; rw [hv] at e2; cases e2
    walk_at "go"
    exact q
theorem ok_atom_holds {f fH C : Addr} {fd fdH : FuncData} (F : Fun K "atom_holds" "atom_holds" s_atom_holds f fd)
    (G_Store_has_row : FnOk P w K mg base CX0 1 fH fdH ["self", "name", "row"] (spD K (hasS C))) (ME_Store_has_row : Meth K C "has_row" fH) (B_Store_has_row : Binds K fdH ["self", "name", "row"] []) (CL_Store : Cls K C) (m_tuple : mg "tuple" = none) :
    FnOk P w K mg base CX0 3 f fd ["store", "saying", "things"] (spD K (atomS C)) := by
  refine fn_pure F sc_atom_holds (fun ds O Q E h => ?_) (fun cdv A outer s H E hr =>
    (d_scons (d_ifS (d_tcmp od_inS (d_ix (d_var (i := 1) rfl (.inl rfl) (by decide) (by decide)) d_int (fun _ _ => rfl)) (d_tup (d_cons d_str (d_cons d_str d_nil rfl) rfl)) rfl) (d_sone (d_ret (d_meth (fun _ => rfl) CL_Store ME_Store_has_row G_Store_has_row (hr.mono (by decide)) B_Store_has_row pass0 (d_var (i := 0) rfl (.inl rfl) (by decide) (by decide)) (d_cons (d_ix (d_var (i := 1) rfl (.inl rfl) (by decide) (by decide)) d_int (fun _ _ => rfl)) (d_cons (d_callTy cd_tuple rfl m_tuple boot_tuple (d_cons (d_lc rfl sc_atom_holds.nd (d_iter (d_sl (d_var (i := 1) rfl (.inl rfl) (by decide) (by decide)) (d_part d_int) d_nopart)) (blkOk_by (own := [("name", 5)]) (N := N_atom_holds) (sc := defScope s_atom_holds) (by decide +kernel)) (fun _ _ _ _ _ => (dg_name (i := 5) sc_atom_holds.nd rfl (.inl rfl) (.inr rfl))) (fun _ _ _ _ _ => d_ifs0) (fun _ _ _ _ _ => (d_dget (hud hr) (d_var (i := 2) rfl (.inr (.inl rfl)) (by decide) (by decide)) (d_var (i := 5) rfl (.inl rfl) (by decide) (by decide)) (fun _ _ => rfl))) (by decide +kernel) (fun _ => rfl)) d_nil rfl) (by decide) (by decide) rfl rfl) d_nil rfl) rfl) rfl rfl rfl))) d_snil)
      (d_scons (d_par (i := 3) (j := 4) rfl sc_atom_holds.nd rfl rfl (by decide) rfl rfl (d_cons (d_dget (hud hr) (d_var (i := 2) rfl (.inr (.inl rfl)) (by decide) (by decide)) (d_ix (d_var (i := 1) rfl (.inl rfl) (by decide) (by decide)) d_int (fun _ _ => rfl)) (fun _ _ => rfl)) (d_cons (d_dget (hud hr) (d_var (i := 2) rfl (.inr (.inl rfl)) (by decide) (by decide)) (d_ix (d_var (i := 1) rfl (.inl rfl) (by decide) (by decide)) d_int (fun _ _ => rfl)) (fun _ _ => rfl)) d_nil rfl) rfl) rfl rfl)
      (d_sone (d_ret (d_if (d_tcmp (od_eq hr.units) (d_ix (d_var (i := 1) rfl (.inl rfl) (by decide) (by decide)) d_int (fun _ _ => rfl)) d_str (nomark _)) (d_cmp (od_eq hr.units) (d_var (i := 3) rfl (.inl rfl) (by decide) (by decide)) (d_var (i := 4) rfl (.inl rfl) (by decide) (by decide)) (nomark _)) (d_cmp od_lt (d_var (i := 3) rfl (.inl rfl) (by decide) (by decide)) (d_var (i := 4) rfl (.inl rfl) (by decide) (by decide)) (nomark _)))))))) (fun ds O Q E h => ?_) (fun ds O Q E h => h)
  · obtain ⟨n, t, s, e, rfl, _⟩ := h; rfl
  · obtain ⟨n, t, s, e, rfl, g, hf, ha, ho, q⟩ := h
    rw [show startD N_atom_holds [.ins C (stF n (kdsOf t)), s.d, .dic (envK e)] = [.sh (.ins C (stF n (kdsOf t))), .sh s.d, .sh (.dic (envK e)), .un, .un, .un] from rfl]
    cases s with
    | has x a =>
      dsimp only [Say.d]
      simp only [Say.ok, Bool.and_eq_true, decide_eq_true_eq] at ho
      have va := val_E ho.2
      obtain ⟨rs, hx⟩ := hf (x, 1) (by simp [Say.tabs])
      walk_at "go"
      refine go_slT (ys := [.str a]) rfl (fun h => absurd (show (2 : Nat) = 0 from h.1) (by decide)) ?_
      walk_at "go"
      refine spM.of ⟨n, t, x, 1, rs, [(getE e a : Int)], rfl, g, hx, ?_⟩
      rw [← rowT_in g.nd hx]
      exact q
    | link x a b =>
      dsimp only [Say.d]
      simp only [Say.ok, Bool.and_eq_true, decide_eq_true_eq] at ho
      have va := val_E ho.2.1
      have vb := val_E ho.2.2
      obtain ⟨rs, hx⟩ := hf (x, 2) (by simp [Say.tabs])
      walk_at "go"
      refine go_slT (ys := [.str a, .str b]) rfl (fun h => absurd (show (2 : Nat) = 0 from h.1) (by decide)) ?_
      walk_at "go"
      refine spM.of ⟨n, t, x, 2, rs, [(getE e a : Int), (getE e b : Int)], rfl, g, hx, ?_⟩
      rw [← rowT_in g.nd hx]
      exact q
    | same a b =>
      dsimp only [Say.d]
      simp only [Say.ok, Bool.and_eq_true, decide_eq_true_eq] at ho
      have va := val_E ho.2.1
      have vb := val_E ho.2.2
      walk_at "go"
      show Q (.bl (decide ((getE e a : Int) = (getE e b : Int)))) O
      rw [decN]; exact q
    | less a b =>
      dsimp only [Say.d]
      simp only [Say.ok, Bool.and_eq_true, decide_eq_true_eq] at ho
      have va := val_E ho.2.1
      have vb := val_E ho.2.2
      walk_at "go"
      show Q (.bl (decide ((getE e a : Int) < (getE e b : Int)))) O
      rw [decL]; exact q
    | _ => cases ha
theorem ok_named {f C : Addr} {fd : FuncData} (F : Fun K "named" "named" s_named f fd) (m_zip : mg "zip" = none) (CL_Question : Cls K C) (NA_Question_names : NoAttr K C "names") :
    FnOk P w K mg base CX0 1 f fd ["question", "inputs"] (spD K (namedS C)) := by
  refine fn_pure F sc_named (fun ds O Q E h => ?_) (fun cdv A outer s H E hr =>
    (d_sone (d_ret (d_frz (d_dcO rfl sc_named.nd (d_zip rfl m_zip (d_cons (d_fld CL_Question NA_Question_names (d_var (i := 0) rfl (.inl rfl) (by decide) (by decide)) rfl) (d_cons (d_var (i := 1) rfl (.inl rfl) (by decide) (by decide)) d_nil rfl) rfl) rfl rfl) (blkOk_by (own := [("name", 2), ("thing", 3)]) (N := N_named) (sc := defScope s_named) (by decide +kernel)) (fun _ _ _ _ _ => (dg_tup (n := 2) rfl (dgs_cons (dg_name (i := 2) sc_named.nd rfl (.inl rfl) (.inr rfl)) (dgs_cons (dg_name (i := 3) sc_named.nd rfl (.inl rfl) (.inr rfl)) dgs_nil rfl) rfl) rfl rfl)) (fun _ _ _ _ _ => d_ifs0) (fun _ _ _ _ _ => (d_var (i := 2) rfl (.inl rfl) (by decide) (by decide))) (fun _ _ _ _ _ => (d_var (i := 3) rfl (.inl rfl) (by decide) (by decide))) (by decide +kernel) (fun _ => rfl)))))) (fun ds O Q E h => ?_) (fun ds O Q E h => h)
  · obtain ⟨ns, s, is, d, rfl, _⟩ := h; rfl
  · obtain ⟨ns, s, is, d, rfl, hd, hl, h3, hn, q⟩ := h
    rw [show startD N_named [qsD C ns s, d] = [.sh (qsD C ns s), .sh d, .un, .un] from rfl]
    walk_at "go"
    refine go_zip (.inr rfl) hd ?_
    rw [zip_strs]
    have hk : ((ns.zip is).map fun z => (Sum.inr z.1 : Key)).Nodup := by
      have : ((ns.zip is).map fun z => (Sum.inr z.1 : Key)) = (nmsE (ns.zip is)).map Sum.inr := by unfold nmsE; rw [List.map_map]; rfl
      rw [this, zip_nms hl]
      exact nodup_map (fun x y e => by cases e; rfl) hn
    have hlz : (ns.zip is).length ≤ 3 := by rw [List.length_zip]; omega
    refine dcW_fold (l := ns.zip is) (acc := []) (fun z : Str × Nat => D.tup [.str z.1, natD z.2]) (fun z : Str × Nat => some (Sum.inr z.1, natD z.2)) (fun z hz Qz Qs h1 h2 => ?_) (by show 0 + (ns.zip is).length ≤ 1000; omega) ?_
    · have := h1 _ _ rfl
      walk_at "go"
      exact this
    rw [foldK_new (fun z : Str × Nat => Sum.inr z.1) (fun z : Str × Nat => natD z.2) (by simpa using hk), List.nil_append]
    intro p np
    walk_at "go"
    rw [odel_oset np]
    exact q
end
end LW
set_option Elab.async false
set_option linter.all false
set_option maxRecDepth 100000
set_option maxHeartbeats 8000000
set_option pp.maxSteps 1500
/-! levels, holds -/
namespace LW
open PySem PySem.Spec PyProof.Rows L2 EV PySem.XO PySem.W LamX
local macro_rules | `(tactic| walk_at "fd") => `(tactic| first | assumption | rfl)
local macro_rules | `(tactic| walk_at "ow") => `(tactic| first | assumption | exact oset_self | (rw [oset_ne (by assumption)]; walk_at "ow") | (rw [oset_ne (Ne.symm (by assumption))]; walk_at "ow"))
local macro_rules | `(tactic| walk_at "ix") => `(tactic| first | exact EV.ga0 | exact EV.ga1 | exact EV.ga2 | exact EV.ga3 | exact EV.ga4 | exact EV.ga5 | exact EV.ga6 | exact EV.ga7 | exact EV.ga8 | exact EV.ga9 | exact EV.ga10 | exact EV.ga11 | exact EV.ga12 | exact EV.ga13 | exact EV.ga14 | exact EV.ga15 | assumption | rfl)
local macro_rules | `(tactic| walk_at "sz") => `(tactic| first | exact trivial | (with_reducible assumption) | omega | ((with_reducible refine szR ?_); exact rfl) | ((with_reducible refine szk' ?_); omega) | ((with_reducible refine szl ?_); omega) | exact szlt rfl | rfl | exact ⟨rfl, by assumption⟩ | exact ⟨rfl, rfl⟩ | exact ⟨_, rfl⟩ | ((with_reducible refine szk' ?_); simp only [List.length_cons, List.length_nil, List.length_append, List.length_map]; omega) | (unfold CMul; omega) | (unfold CDiv; omega) | (unfold CPow; exact ⟨by omega, by omega, by omega⟩) | (constructor; · omega; · omega))
local macro_rules | `(tactic| walk_at "val") => `(tactic| first | assumption | exact rfl)
local macro_rules | `(tactic| walk_at "ty") => `(tactic| first | assumption | exact rfl)
local macro_rules | `(tactic| walk_at "bt") => `(tactic| first | exact rfl | assumption)
local macro_rules | `(tactic| walk_at "n") => `(tactic| refine st_norm (by simp only [List.set_cons_succ, List.set_cons_zero]; rfl) ?_)
local macro_rules | `(tactic| walk_at "wh") => `(tactic| with_reducible conv => whnf)
local macro_rules | `(tactic| walk_at "call") => `(tactic| fail)
local macro_rules | `(tactic| walk_at "go1") => `(tactic| first
  | ((with_reducible apply go_var); (· exact rfl))
  | ((with_reducible apply go_varF); (· exact rfl); (· walk_at "ow"))
  | ((with_reducible apply go_set); (· (simp only [wipeD, List.map_cons, List.map_nil, List.set_cons_succ, List.set_cons_zero]; rfl)))
  | ((with_reducible apply go_fld); (· walk_at "fd"))
  | ((with_reducible apply go_fldH); (· walk_at "ow"); (· walk_at "fd"))
  | ((with_reducible apply go_ixT); (· walk_at "ix"))
  | ((with_reducible apply go_ixL); (· walk_at "ix"))
  | ((with_reducible apply go_ixH); (· walk_at "ow"); (· walk_at "ix"))
  | ((with_reducible apply go_bcT); (· walk_at "bt"))
  | ((with_reducible apply go_bcF); (· walk_at "bt"))
  | ((with_reducible apply go_methH); (· walk_at "ow"); (· walk_at "fd"))
  | ((with_reducible apply And.intro); (· walk_at "sz"))
  | ((with_reducible apply go_lm); (· walk_at "ow"))
  | ((with_reducible apply go_lm2); (· walk_at "ow"))
  | ((with_reducible apply go_app); (· walk_at "sz"))
  | ((with_reducible apply go_ext); (· walk_at "sz"))
  | ((with_reducible apply go_setF); (· walk_at "ow"))
  | ((with_reducible apply go_frz); (· walk_at "ow"))
  | ((with_reducible apply go_atK); (· walk_at "val"))
  | ((with_reducible apply go_atS); (· walk_at "val"))
  | ((with_reducible apply go_atI); (· walk_at "val"))
  | ((with_reducible apply go_atHK); (· walk_at "ow"); (· walk_at "val"))
  | ((with_reducible apply go_atHS); (· walk_at "ow"); (· walk_at "val"))
  | ((with_reducible apply go_dputS); (· walk_at "ow"); (· walk_at "sz"))
  | ((with_reducible apply go_dputK); (· walk_at "ow"); (· walk_at "sz"))
  | (with_reducible apply go_eqI)
  | (with_reducible apply go_eqS)
  | (with_reducible apply go_eqB)
  | (with_reducible apply go_neg)
  | (with_reducible apply go_lenL)
  | (with_reducible apply go_lenT)
  | ((with_reducible apply go_lenS); (· walk_at "sz"))
  | ((with_reducible apply go_lenH); (· walk_at "ow"))
  | (with_reducible apply go_tupL)
  | (with_reducible apply go_tupT)
  | ((with_reducible apply go_tupH); (· walk_at "ow"))
  | (with_reducible apply go_listL)
  | (with_reducible apply go_listT)
  | ((with_reducible apply go_listH); (· walk_at "ow"))
  | (with_reducible apply go_all)
  | (with_reducible apply go_any)
  | ((with_reducible apply go_isi); (· exact rfl); (· walk_at "ty"); (· walk_at "val"))
  | ((with_reducible apply go_inS); (· exact rfl))
  | ((with_reducible apply go_inSL); (· exact rfl))
  | ((with_reducible apply go_sortS); (· walk_at "sz"))
  | (with_reducible apply go_own)
  | (with_reducible apply go_pnil)
  | (with_reducible apply go_pcons)
  | ((with_reducible apply go_lcNil); (· exact trivial))
  | (with_reducible apply go_lcCons)
  | (with_reducible apply go_min2)
  | walk_at "call")
local macro_rules | `(tactic| walk_at "go") => `(tactic| (walk_at "wh"; repeat (walk_at "go1"; walk_at "wh")))
abbrev s_levels : Stmt := topS 41
abbrev N_levels : List Str := ["store", "saying", "things", "body", "one", "other", "found", "reached", "t", "s"]
theorem sc_levels : FnScope N_levels ["store", "saying", "things"] (defScope s_levels) := ⟨rfl, rfl, rfl, by decide +kernel, rfl, by decide +kernel, by decide +kernel⟩
abbrev s_holds : Stmt := topS 42
abbrev N_holds : List Str := ["store", "saying", "things", "word", "many", "first", "found", "at", "t"]
theorem sc_holds : FnScope N_holds ["store", "saying", "things"] (defScope s_holds) := ⟨rfl, rfl, rfl, by decide +kernel, rfl, by decide +kernel, by decide +kernel⟩
theorem fn_vac {P : Program} {w : World} {K : PySem.W.Frag} {mg : Str → Option Value} {base : Heap} {CX : CXT} {k : Nat} {f : Addr} {fd : FuncData} {ps : List Str} {sp : DSp} (h : ∀ ds O Q E, sp ds O Q E → False) : FnOk P w K mg base CX k f fd ps (spD K sp) :=
  ⟨fun vs H Q E ⟨_, _, _, _, _, _, _, z, _⟩ => (h _ _ _ _ z).elim, fun A outer s H args us vs Q E _ _ _ _ ⟨_, _, _, _, _, _, _, z, _⟩ => (h _ _ _ _ z).elim⟩
def wayOf : Say Str → Option (Str × Str × Say Str × Str × Str)
  | .way x y s a b => some (x, y, s, a, b)
  | .within _ x y s a b => some (x, y, s, a, b)
  | _ => none
/-- things by name, of a store of n things -/
structure EnvOk (n : Nat) (e : En) : Prop where
  nd : (nmsE e).Nodup
  lt : ∀ z ∈ e, z.2 < n
theorem EnvOk.get {n : Nat} {e : En} (h : EnvOk n e) {x : Str} (hx : x ∈ nmsE e) : getE e x < n := by
  obtain ⟨z, hz, _⟩ := find_E hx
  unfold getE
  rw [hz]
  exact h.lt z (List.mem_of_find?_eq_some hz)
theorem EnvOk.set {n : Nat} {e : En} (h : EnvOk n e) {x : Str} {t : Nat} (hx : x ∉ nmsE e) (ht : t < n) : EnvOk n (setE e x t) := by
  refine ⟨?_, fun z hz => ?_⟩
  · rw [nms_setE hx]
    refine List.nodup_append.mpr ⟨h.nd, by simp, fun a ha b hb => ?_⟩
    simp at hb; subst hb
    exact fun z => hx (z ▸ ha)
  · unfold setE at hz
    rw [if_neg hx] at hz
    rcases List.mem_append.mp hz with hz | hz
    · exact h.lt z hz
    · simp at hz; subst hz; exact ht
theorem envK_nd {n : Nat} {e : En} (h : EnvOk n e) : ((envK e).map (·.1)).Nodup := by
  have : (envK e).map (·.1) = (nmsE e).map Sum.inr := by unfold envK nmsE; rw [List.map_map, List.map_map]; rfl
  rw [this]
  exact nodup_map (fun x y e => by cases e; rfl) h.nd
theorem envK_len (e : En) : (envK e).length = (nmsE e).length := by unfold envK nmsE; rw [List.length_map, List.length_map]
theorem ok_len {ns : List Str} {s : Say Str} (h : s.ok ns = true) : ns.length ≤ 6 := by
  cases s <;> simp only [Say.ok, Bool.and_eq_true, decide_eq_true_eq] at h <;> omega
def levS (d : Nat) (C : Addr) : DSp := fun ds O Q _ => ∃ (n : Nat) (t : Tb) (s : Say Str) (e : En) (x y : Str) (b : Say Str) (a c : Str), ds = [.ins C (stF n (kdsOf t)), s.d, .dic (envK e)] ∧ Gd n t ∧ FitT t s ∧ wayOf s = some (x, y, b, a, c) ∧ s.ok (nmsE e) = true ∧ s.deep ≤ d + 1 ∧ EnvOk n e ∧
  Q (.lst ((levL n (fun u v => sem n (rowT t) b (updE (updE (getE e) x u) y v)) (getE e a)).map fun l => .lst (l.map natD))) O
def holdS (d : Nat) (C : Addr) : DSp := fun ds O Q _ => ∃ (n : Nat) (t : Tb) (s : Say Str) (e : En), ds = [.ins C (stF n (kdsOf t)), s.d, .dic (envK e)] ∧ Gd n t ∧ FitT t s ∧ s.ok (nmsE e) = true ∧ s.deep ≤ d ∧ EnvOk n e ∧ Q (.bl (sem n (rowT t) s (getE e))) O
theorem way_facts {s b : Say Str} {x y a c : Str} {ns : List Str} {d : Nat} (h : wayOf s = some (x, y, b, a, c)) (ho : s.ok ns = true) (hd : s.deep ≤ d + 1) : (∃ pre, s.d = .tup (pre ++ [.str x, .str y, b.d, .str a, .str c]) ∧ pre.length ≤ 2) ∧ a ∈ ns ∧ c ∈ ns ∧ x ∉ ns ∧ y ∉ ns ∧ x ≠ y ∧ b.ok (ns ++ [x, y]) = true ∧ b.deep ≤ d ∧ s.tabs = b.tabs := by
  cases s <;> simp only [wayOf, reduceCtorEq] at h
  · cases h
    simp only [Say.ok, Bool.and_eq_true, decide_eq_true_eq, Bool.not_eq_true', decide_eq_false_iff_not] at ho
    refine ⟨⟨[.str "way"], rfl, by decide⟩, ho.1.1.1, ho.1.1.2, ho.1.2.1.1, ho.1.2.1.2, ho.1.2.2, ho.2.2, by simp only [Say.deep] at hd; omega, rfl⟩
  · cases h
    simp only [Say.ok, Bool.and_eq_true, decide_eq_true_eq, Bool.not_eq_true', decide_eq_false_iff_not] at ho
    refine ⟨⟨[.str "within", _], rfl, Nat.le_of_ble_eq_true rfl⟩, ho.1.2.1.1, ho.1.2.1.2, ho.1.2.2.1.1, ho.1.2.2.1.2, ho.1.2.2.2, ho.2.2, by simp only [Say.deep] at hd; omega, rfl⟩
section
variable {P : Program} {w : World} {K : PySem.W.Frag} {mg : Str → Option Value} {base : Heap}
theorem ok_levels {f fH C : Addr} {fd fdH : FuncData} (F : Fun K "levels" "levels" s_levels f fd) (d : Nat)
    (G_holds : FnOk P w K mg base CX0 (2 * d + 4) fH fdH ["store", "saying", "things"] (spD K (holdS d C))) (T_holds : Gf K mg "holds" fH fdH ["store", "saying", "things"])
    (CL_Store : Cls K C) (NA_Store_size : NoAttr K C "size") (m_range : mg "range" = none) (m_len : mg "len" = none) :
    FnOk P w K mg base CX0 (2 * d + 5) f fd ["store", "saying", "things"] (spD K (levS d C)) := by
  refine fn_pure F sc_levels (fun ds O Q E h => ?_) (fun cdv A outer s H E hr =>
    (d_scons (d_asg (d_tup (d_cons (d_ix (d_var (i := 1) rfl (.inl rfl) (by decide) (by decide)) (d_neg d_int) (fun _ _ => rfl)) (d_cons (d_ix (d_var (i := 1) rfl (.inl rfl) (by decide) (by decide)) (d_neg d_int) (fun _ _ => rfl)) (d_cons (d_ix (d_var (i := 1) rfl (.inl rfl) (by decide) (by decide)) (d_neg d_int) (fun _ _ => rfl)) d_nil rfl) rfl) rfl)) (dg_tup (n := 3) rfl (dgs_cons (dg_name (i := 3) sc_levels.nd rfl (.inr rfl) (.inl rfl)) (dgs_cons (dg_name (i := 4) sc_levels.nd rfl (.inr rfl) (.inl rfl)) (dgs_cons (dg_name (i := 5) sc_levels.nd rfl (.inr rfl) (.inl rfl)) dgs_nil rfl) rfl) rfl) rfl rfl) rfl rfl rfl)
      (d_scons (d_set (i := 6) sc_levels.nd rfl (.inr rfl) (d_lstO (d_cons (d_lst (d_cons (d_dget (hud hr) (d_var (i := 2) rfl (.inr (.inl rfl)) (by decide) (by decide)) (d_ix (d_var (i := 1) rfl (.inl rfl) (by decide) (by decide)) (d_neg d_int) (fun _ _ => rfl)) (fun _ _ => rfl)) d_nil rfl)) d_nil rfl)) rfl (.inl rfl))
      (d_sone (d_while PassesOwn.never (d_test d_bl (by intro _; rfl)) (d_scons (d_setLc (i := 7) rfl sc_levels.nd rfl rfl (sw_true rfl rfl rfl (by decide +kernel)) (d_rng1 rfl m_range (d_cons (d_fld CL_Store NA_Store_size (d_var (i := 0) rfl (.inr (.inl rfl)) (by decide) (by decide)) rfl) d_nil rfl) rfl) (blkOk_by (own := [("t", 8)]) (N := N_levels) (sc := defScope s_levels) (by decide +kernel)) (fun _ _ _ _ _ => (dg_name (i := 8) sc_levels.nd rfl (.inr rfl) (.inl rfl))) (fun _ _ _ _ _ => (d_ifs1 (DPW.pt (d_wor (d_tcmp (od_inLT (hu1 hr)) (d_var (i := 8) rfl (.inr (.inl rfl)) (by decide) (by decide)) (d_ix (d_var (i := 6) rfl (.inr (.inl rfl)) (by decide) (by decide)) (d_neg d_int) (fun _ _ => rfl)) rfl) (d_or1 (d_tcmp od_gt (d_callB cd_len rfl m_len boot_len (d_cons (d_lc rfl sc_levels.nd (d_iter (d_ix (d_var (i := 6) rfl (.inr (.inl rfl)) (by decide) (by decide)) (d_neg d_int) (fun _ _ => rfl))) (blkOk_by (own := [("s", 9)]) (N := N_levels) (sc := _) (by kernel_rfl)) (fun _ _ _ _ _ => (dg_name (i := 9) sc_levels.nd rfl (.inl rfl) (.inr rfl))) (fun _ _ _ _ _ => (d_ifs1 (d_test (d_call G_holds (hr.mono (by omega)) rfl T_holds.m T_holds.k T_holds.b (fun _ => pass0A) (d_cons (d_var (i := 0) rfl (.inr (.inl rfl)) (by decide) (by decide)) (d_cons (d_var (i := 3) rfl (.inr (.inl rfl)) (by decide) (by decide)) (d_cons (d_mrgF2 (d_var (i := 2) rfl (.inr (.inl rfl)) (by decide) (by decide)) (d_var (i := 4) rfl (.inr (.inl rfl)) (by decide) (by decide)) (d_var (i := 9) rfl (.inl rfl) (by decide) (by decide)) (d_var (i := 5) rfl (.inr (.inl rfl)) (by decide) (by decide)) (d_var (i := 8) rfl (.inr (.inl rfl)) (by decide) (by decide))) d_nil rfl) rfl) rfl) (by decide) rfl rfl) (by intro _; rfl)))) (fun _ _ _ _ _ => (d_var (i := 9) rfl (.inl rfl) (by decide) (by decide))) (by decide +kernel) (fun _ => rfl)) d_nil rfl) (by decide) (by decide) rfl rfl) d_int (nomark _))))))) (fun _ _ _ _ _ => (d_var (i := 8) rfl (.inr (.inl rfl)) (by decide) (by decide))) (by decide +kernel) (fun _ => rfl))
      (d_scons (d_ifS (d_tcmp (od_eq hr.units) (d_callB cd_len rfl m_len boot_len (d_cons (d_var (i := 7) rfl (.inl rfl) (by decide) (by decide)) d_nil rfl) (by decide) (by decide) rfl rfl) (d_callB cd_len rfl m_len boot_len (d_cons (d_ix (d_var (i := 6) rfl (.inr (.inl rfl)) (by decide) (by decide)) (d_neg d_int) (fun _ _ => rfl)) d_nil rfl) (by decide) (by decide) rfl rfl) (nomark _)) (d_sone (d_ret (d_varF (i := 6) rfl (.inr (.inl rfl)) (by decide) (by decide)))) d_snil)
      (d_sone (d_expr (d_lm lm_app (d_var (i := 6) rfl (.inr (.inl rfl)) (by decide) (by decide)) (d_cons (d_var (i := 7) rfl (.inl rfl) (by decide) (by decide)) d_nil rfl) rfl rfl rfl rfl rfl) rfl))))))))) (fun ds O Q E h => ?_) (fun ds O Q E h => h)
  · obtain ⟨n, tb, s, e, x, y, b, a, c, rfl, _⟩ := h; rfl
  · obtain ⟨n, tb, s, e, x, y, b, a, c, rfl, g, hf, hw, ho, hd, he, q⟩ := h
    obtain ⟨⟨pre, es, hpre⟩, ha, hc, hx, hy, hxy, hb, hbd, htb⟩ := way_facts hw ho hd
    rw [show startD N_levels [.ins C (stF n (kdsOf tb)), s.d, .dic (envK e)] = [.sh (.ins C (stF n (kdsOf tb))), .sh s.d, .sh (.dic (envK e)), .un, .un, .un, .un, .un, .un, .un] from rfl, es]
    have a3 : atI (pre ++ [.str x, .str y, b.d, .str a, .str c]) (-3) = some b.d := by
      rw [show pre ++ [.str x, .str y, b.d, .str a, .str c] = (pre ++ [.str x, .str y]) ++ b.d :: [.str a, .str c] by simp]
      exact atI_neg (k := 3) rfl
    have a5 : atI (pre ++ [.str x, .str y, b.d, .str a, .str c]) (-5) = some (.str x) := atI_neg (k := 5) rfl
    have a4 : atI (pre ++ [.str x, .str y, b.d, .str a, .str c]) (-4) = some (.str y) := by
      rw [show pre ++ [.str x, .str y, b.d, .str a, .str c] = (pre ++ [.str x]) ++ .str y :: [b.d, .str a, .str c] by simp]
      exact atI_neg (k := 4) rfl
    have a2 : atI (pre ++ [.str x, .str y, b.d, .str a, .str c]) (-2) = some (.str a) := by
      rw [show pre ++ [.str x, .str y, b.d, .str a, .str c] = (pre ++ [.str x, .str y, b.d]) ++ .str a :: [.str c] by simp]
      exact atI_neg (k := 2) rfl
    have va := val_E ha
    have hga := he.get ha
    have hn8 := g.n8
    generalize hxs : pre ++ [.str x, .str y, b.d, .str a, .str c] = xs at a2 a3 a4 a5
    walk_at "go"
    intro p np
    have ho6 := ok_len ho
    obtain ⟨L, hL⟩ : ∃ L, L = levL n (fun u v => sem n (rowT tb) b (updE (updE (getE e) x u) y v)) (getE e a) := ⟨_, rfl⟩
    rw [← hL] at q
    obtain ⟨st, hst⟩ : ∃ st : Nat → Nat → Bool, st = fun u v => sem n (rowT tb) b (updE (updE (getE e) x u) y v) := ⟨_, rfl⟩
    rw [← hst] at hL
    walk_at "go"
    refine ⟨fun m ρ O' => ∃ (pr : List (List Nat)) (l : List Nat) (s7 s8 s9 : Sl), pr ++ growL n st m l = L ∧ (∀ i ∈ l, i < n) ∧ l.Nodup ∧ n < l.length + m ∧ pr.length + m ≤ n ∧ O' = oset O p (.lst ((pr ++ [l]).map fun l => .lst (l.map natD))) ∧ ρ = [.sh (.ins C (stF n (kdsOf tb))), .sh (.tup xs), .sh (.dic (envK e)), .sh b.d, .sh (.str x), .sh (.str y), .sh (.opq (.ref p)), s7, s8, s9],
      ⟨n, [], [getE e a], _, _, _, by rw [hL]; rfl, fun i hi => by simp at hi; subst hi; exact hga, by simp, by simp, by simp, rfl, rfl⟩, ?_⟩
    rintro m ρ O' ⟨pr, l, s7, s8, s9, e1, hl, hln, hm, hpr, rfl, rfl⟩
    have hll : l.length ≤ n := by
      have := hln.length_le_of_subset (l₂ := List.range n) fun i hi => List.mem_range.mpr (hl i hi)
      rwa [List.length_range] at this
    obtain ⟨m, rfl⟩ : ∃ k, m = k + 1 := ⟨m - 1, by omega⟩
    have alst : atI ((pr ++ [l]).map fun l => D.lst (l.map natD)) (-1) = some (.lst (l.map natD)) := by
      rw [List.map_append]; exact atI_last _ _
    have hfb : FitT tb b := fun z hz => hf z (by rw [htb]; exact hz)
    refine ⟨_, fun r O' h => h, ?_⟩
    have er : rngD 0 ((n : Int).toNat) = (List.range n).map natD := by rw [Int.toNat_natCast, rng_nats]
    refine go_st fun N hN => ?_
    walk_at "go"
    rw [er]
    refine lc_filt (fun i => decide (i ∈ l) || l.any fun j => st j i) (fun i hi Qy Qs h1 h2 => ?_) (by rw [List.length_range]; omega) ?_
    · have hin : i < n := List.mem_range.mp hi
      unfold elW
      walk_at "go"
      refine in_nats ?_
      by_cases hm2 : i ∈ l
      · rw [decide_eq_true hm2] at h1 ⊢
        walk_at "go"
        exact h1 rfl
      · rw [decide_eq_false hm2] at h1 h2 ⊢
        walk_at "go"
        refine lc_filt (fun j => st j i) (fun j hj Qy2 Qs2 k1 k2 => ?_) (by omega) ?_
        · have hjn : j < n := hl j hj
          unfold elW
          walk_at "go"
          refine go_mrgF2 (envK e) (.inr x) (.inr y) (natD j) (natD i) (envK_nd he) (fun z => hxy (Sum.inr.inj z)) (by rw [envK_len]; omega) (fun O' Q E q => ?_) (fun O' Q E q => ?_) (fun O' Q E q => ?_) (fun O' Q E q => ?_) (fun O' Q E q => ?_) ?_
          · walk_at "go"; exact q
          · walk_at "go"; exact q
          · walk_at "go"; exact q
          · walk_at "go"; exact q
          · walk_at "go"; exact q
          rw [put_E, put_E]
          walk_at "go"
          have hy2 : y ∉ nmsE (setE e x j) := by rw [nms_setE hx]; simp [hy]; exact fun z => hxy z.symm
          refine spM.of ⟨n, tb, b, setE (setE e x j) y i, rfl, g, hfb, by rw [nms_setE hy2, nms_setE hx]; simpa using hb, hbd, (he.set hx hjn).set hy2 hin, ?_⟩
          rw [get_setE, get_setE, show sem n (rowT tb) b (updE (updE (getE e) x j) y i) = st j i by rw [hst]]
          cases hv : st j i with
          | true =>
            walk_at "go"
            exact k1 hv
          | false =>
            walk_at "go"
            exact k2 hv
        · walk_at "go"
          have e3 : decide ((0 : Int) < (((l.filter fun j => st j i).map natD).length : Nat)) = l.any fun j => st j i := by
            rw [List.length_map, Bool.eq_iff_iff, decide_eq_true_eq, List.any_eq_true]
            constructor
            · intro h
              obtain ⟨j, hj⟩ := List.exists_mem_of_length_pos (l := l.filter fun j => st j i) (by omega)
              have := List.mem_filter.mp hj
              exact ⟨j, this.1, this.2⟩
            · rintro ⟨j, hj, hs⟩
              have : 0 < (l.filter fun j => st j i).length := List.length_pos_of_mem (List.mem_filter.mpr ⟨hj, hs⟩)
              omega
          show bc (decide ((0 : Int) < (((l.filter fun j => st j i).map natD).length : Nat))) _ _
          rw [e3]
          cases hv : l.any fun j => st j i with
          | true =>
            walk_at "go"
            exact h1 (by rw [hv]; rfl)
          | false =>
            walk_at "go"
            exact h2 (by rw [hv]; rfl)
    have enx : (List.range n).filter (fun i => decide (i ∈ l) || l.any fun j => st j i) = nextL n st l := rfl
    rw [enx]
    walk_at "go"
    subst hN
    have hnl := next_len (n := n) (st := st) (l := l)
    have hsub := next_sub (st := st) hl hln
    walk_at "go"
    have ed : decide ((((nextL n st l).map natD).length : Int) = ((l.map natD).length : Nat)) = decide ((nextL n st l).length = l.length) := by
      rw [List.length_map, List.length_map]; exact decide_eq_decide.mpr (by omega)
    show bc (decide ((((nextL n st l).map natD).length : Int) = ((l.map natD).length : Nat))) _ _
    rw [ed]
    by_cases hq : (nextL n st l).length = l.length
    · rw [decide_eq_true hq]
      walk_at "go"
      rw [growL, if_pos hq] at e1
      rw [odel_oset np, e1]
      exact q
    · rw [decide_eq_false hq]
      have hz : ((pr ++ [l]).map fun l => D.lst (l.map natD)).length ≤ 100 := by rw [List.length_map, List.length_append, List.length_singleton]; omega
      walk_at "go"
      rw [growL, if_neg hq] at e1
      refine ⟨m, by omega, pr ++ [l], nextL n st l, _, _, _, by rw [List.append_assoc]; exact e1, next_ok.1, next_ok.2, by omega, by rw [List.length_append]; show _ + 1 + _ ≤ _; omega, ?_, rfl⟩
      rw [oset_oset, List.map_append (l₁ := pr ++ [l])]; rfl
end
end LW
set_option Elab.async false
set_option linter.all false
set_option maxRecDepth 100000
set_option maxHeartbeats 8000000
set_option pp.maxSteps 1500
/-! holds -/
namespace LW
open PySem PySem.Spec PyProof.Rows L2 EV PySem.XO PySem.W LamX
local macro_rules | `(tactic| walk_at "fd") => `(tactic| first | assumption | rfl)
local macro_rules | `(tactic| walk_at "ow") => `(tactic| first | assumption | exact oset_self | (rw [oset_ne (by assumption)]; walk_at "ow") | (rw [oset_ne (Ne.symm (by assumption))]; walk_at "ow"))
local macro_rules | `(tactic| walk_at "ix") => `(tactic| first | exact EV.ga0 | exact EV.ga1 | exact EV.ga2 | exact EV.ga3 | exact EV.ga4 | exact EV.ga5 | exact EV.ga6 | exact EV.ga7 | exact EV.ga8 | exact EV.ga9 | exact EV.ga10 | exact EV.ga11 | exact EV.ga12 | exact EV.ga13 | exact EV.ga14 | exact EV.ga15 | assumption | rfl)
local macro_rules | `(tactic| walk_at "sz") => `(tactic| first | exact trivial | (with_reducible assumption) | omega | ((with_reducible refine szR ?_); exact rfl) | ((with_reducible refine szk' ?_); omega) | ((with_reducible refine szl ?_); omega) | exact szlt rfl | rfl | exact ⟨rfl, by assumption⟩ | exact ⟨rfl, rfl⟩ | exact ⟨_, rfl⟩ | ((with_reducible refine szk' ?_); simp only [List.length_cons, List.length_nil, List.length_append, List.length_map]; omega) | (unfold CMul; omega) | (unfold CDiv; omega) | (unfold CPow; exact ⟨by omega, by omega, by omega⟩) | (constructor; · omega; · omega))
local macro_rules | `(tactic| walk_at "val") => `(tactic| first | assumption | exact rfl)
local macro_rules | `(tactic| walk_at "ty") => `(tactic| first | assumption | exact rfl)
local macro_rules | `(tactic| walk_at "bt") => `(tactic| first | exact rfl | assumption)
local macro_rules | `(tactic| walk_at "n") => `(tactic| refine st_norm (by simp only [List.set_cons_succ, List.set_cons_zero]; rfl) ?_)
local macro_rules | `(tactic| walk_at "wh") => `(tactic| with_reducible conv => whnf)
local macro_rules | `(tactic| walk_at "call") => `(tactic| fail)
local macro_rules | `(tactic| walk_at "go1") => `(tactic| first
  | ((with_reducible apply go_var); (· exact rfl))
  | ((with_reducible apply go_varF); (· exact rfl); (· walk_at "ow"))
  | ((with_reducible apply go_set); (· (simp only [wipeD, List.map_cons, List.map_nil, List.set_cons_succ, List.set_cons_zero]; rfl)))
  | ((with_reducible apply go_fld); (· walk_at "fd"))
  | ((with_reducible apply go_fldH); (· walk_at "ow"); (· walk_at "fd"))
  | ((with_reducible apply go_ixT); (· walk_at "ix"))
  | ((with_reducible apply go_ixL); (· walk_at "ix"))
  | ((with_reducible apply go_ixH); (· walk_at "ow"); (· walk_at "ix"))
  | ((with_reducible apply go_bcT); (· walk_at "bt"))
  | ((with_reducible apply go_bcF); (· walk_at "bt"))
  | ((with_reducible apply go_methH); (· walk_at "ow"); (· walk_at "fd"))
  | ((with_reducible apply And.intro); (· walk_at "sz"))
  | ((with_reducible apply go_lm); (· walk_at "ow"))
  | ((with_reducible apply go_lm2); (· walk_at "ow"))
  | ((with_reducible apply go_app); (· walk_at "sz"))
  | ((with_reducible apply go_ext); (· walk_at "sz"))
  | ((with_reducible apply go_setF); (· walk_at "ow"))
  | ((with_reducible apply go_frz); (· walk_at "ow"))
  | ((with_reducible apply go_atK); (· walk_at "val"))
  | ((with_reducible apply go_atS); (· walk_at "val"))
  | ((with_reducible apply go_atI); (· walk_at "val"))
  | ((with_reducible apply go_atHK); (· walk_at "ow"); (· walk_at "val"))
  | ((with_reducible apply go_atHS); (· walk_at "ow"); (· walk_at "val"))
  | ((with_reducible apply go_dputS); (· walk_at "ow"); (· walk_at "sz"))
  | ((with_reducible apply go_dputK); (· walk_at "ow"); (· walk_at "sz"))
  | (with_reducible apply go_eqI)
  | (with_reducible apply go_eqS)
  | (with_reducible apply go_eqB)
  | (with_reducible apply go_neg)
  | (with_reducible apply go_lenL)
  | (with_reducible apply go_lenT)
  | ((with_reducible apply go_lenS); (· walk_at "sz"))
  | ((with_reducible apply go_lenH); (· walk_at "ow"))
  | (with_reducible apply go_tupL)
  | (with_reducible apply go_tupT)
  | ((with_reducible apply go_tupH); (· walk_at "ow"))
  | (with_reducible apply go_listL)
  | (with_reducible apply go_listT)
  | ((with_reducible apply go_listH); (· walk_at "ow"))
  | (with_reducible apply go_all)
  | (with_reducible apply go_any)
  | ((with_reducible apply go_isi); (· exact rfl); (· walk_at "ty"); (· walk_at "val"))
  | ((with_reducible apply go_inS); (· exact rfl))
  | ((with_reducible apply go_inSL); (· exact rfl))
  | ((with_reducible apply go_sortS); (· walk_at "sz"))
  | (with_reducible apply go_own)
  | (with_reducible apply go_pnil)
  | (with_reducible apply go_pcons)
  | ((with_reducible apply go_lcNil); (· exact trivial))
  | (with_reducible apply go_lcCons)
  | (with_reducible apply go_min2)
  | walk_at "call")
local macro_rules | `(tactic| walk_at "go") => `(tactic| (walk_at "wh"; repeat (walk_at "go1"; walk_at "wh")))
section
variable {P : Program} {w : World} {K : PySem.W.Frag} {mg : Str → Option Value} {base : Heap}
theorem lev_nil {n : Nat} {st : Nat → Nat → Bool} {a : Nat} : 1 ≤ (levL n st a).length ∧ (levL n st a).length ≤ n + 1 := grow_len n [a]
theorem call_holds {d n : Nat} {t : Tb} {s : Say Str} {e : En} {C : Addr} {O : Ow} {Q : QD} {E : QX} (g : Gd n t) (hf : FitT t s) (ho : s.ok (nmsE e) = true) (hd : s.deep ≤ d) (he : EnvOk n e) (q : Q (.bl (sem n (rowT t) s (getE e))) O) : spM (holdS d C) [.ins C (stF n (kdsOf t)), s.d, .dic (envK e)] O Q E := spM.of ⟨n, t, s, e, rfl, g, hf, ho, hd, he, q⟩
theorem holds_step {f fA fL fP C : Addr} {fd fdA fdL fdP : FuncData} (F : Fun K "holds" "holds" s_holds f fd) (d : Nat)
    (G_atom_holds : FnOk P w K mg base CX0 3 fA fdA ["store", "saying", "things"] (spD K (atomS C))) (T_atom_holds : Gf K mg "atom_holds" fA fdA ["store", "saying", "things"])
    (G_passes : FnOk P w K mg base CX0 1 fP fdP ["test", "many"] (spD K passS)) (T_passes : Gf K mg "passes" fP fdP ["test", "many"])
    (G_holds : FnOk P w K mg base CX0 (2 * d + 4) f fd ["store", "saying", "things"] (spD K (holdS d C))) (T_holds : Gf K mg "holds" f fd ["store", "saying", "things"])
    (G_levels : FnOk P w K mg base CX0 (2 * d + 5) fL fdL ["store", "saying", "things"] (spD K (levS d C))) (T_levels : Gf K mg "levels" fL fdL ["store", "saying", "things"])
    (CL_Store : Cls K C) (NA_Store_size : NoAttr K C "size") (m_range : mg "range" = none) (m_len : mg "len" = none) (m_min : mg "min" = none) :
    FnOk P w K mg base CX0 (2 * d + 6) f fd ["store", "saying", "things"] (spD K (holdS (d + 1) C)) := by
  refine fn_pure F sc_holds (fun ds O Q E h => ?_) (fun cdv A outer s H E hr =>
    (d_scons (d_set (i := 3) sc_holds.nd rfl (.inl rfl) (d_ix (d_var (i := 1) rfl (.inr (.inl rfl)) (by decide) (by decide)) d_int (fun _ _ => rfl)) rfl (.inl rfl))
      (d_scons (d_ifS (d_tcmp od_inS (d_var (i := 3) rfl (.inl rfl) (by decide) (by decide)) (d_tup (d_cons d_str (d_cons d_str (d_cons d_str (d_cons d_str d_nil rfl) rfl) rfl) rfl)) rfl) (d_sone (d_ret (d_call G_atom_holds (hr.mono (by omega)) rfl T_atom_holds.m T_atom_holds.k T_atom_holds.b (fun _ => pass0A) (d_cons (d_var (i := 0) rfl (.inr (.inl rfl)) (by decide) (by decide)) (d_cons (d_var (i := 1) rfl (.inr (.inl rfl)) (by decide) (by decide)) (d_cons (d_var (i := 2) rfl (.inr (.inl rfl)) (by decide) (by decide)) d_nil rfl) rfl) rfl) (by decide) rfl rfl))) d_snil)
      (d_scons (d_ifS (d_tcmp (od_eq hr.units) (d_var (i := 3) rfl (.inl rfl) (by decide) (by decide)) d_str (nomark _)) (d_sone (d_ret (d_not (d_call G_holds (hr.mono (by omega)) rfl T_holds.m T_holds.k T_holds.b (fun _ => pass0A) (d_cons (d_var (i := 0) rfl (.inr (.inl rfl)) (by decide) (by decide)) (d_cons (d_ix (d_var (i := 1) rfl (.inr (.inl rfl)) (by decide) (by decide)) d_int (fun _ _ => rfl)) (d_cons (d_var (i := 2) rfl (.inr (.inl rfl)) (by decide) (by decide)) d_nil rfl) rfl) rfl) (by decide) rfl rfl)))) d_snil)
      (d_scons (d_ifS (d_tcmp od_inS (d_var (i := 3) rfl (.inl rfl) (by decide) (by decide)) (d_tup (d_cons d_str (d_cons d_str d_nil rfl) rfl)) rfl) (d_scons (d_set (i := 5) sc_holds.nd rfl (.inl rfl) (d_call G_holds (hr.mono (by omega)) rfl T_holds.m T_holds.k T_holds.b (fun _ => pass0A) (d_cons (d_var (i := 0) rfl (.inr (.inl rfl)) (by decide) (by decide)) (d_cons (d_ix (d_var (i := 1) rfl (.inr (.inl rfl)) (by decide) (by decide)) d_int (fun _ _ => rfl)) (d_cons (d_var (i := 2) rfl (.inr (.inl rfl)) (by decide) (by decide)) d_nil rfl) rfl) rfl) (by decide) rfl rfl) rfl (.inl rfl))
      (d_sone (d_ret (d_if (d_tcmp (od_eq hr.units) (d_var (i := 5) rfl (.inl rfl) (by decide) (by decide)) (d_cmp (od_eq hr.units) (d_var (i := 3) rfl (.inl rfl) (by decide) (by decide)) d_str (nomark _)) (nomark _)) (d_call G_holds (hr.mono (by omega)) rfl T_holds.m T_holds.k T_holds.b (fun _ => pass0A) (d_cons (d_var (i := 0) rfl (.inr (.inl rfl)) (by decide) (by decide)) (d_cons (d_ix (d_var (i := 1) rfl (.inr (.inl rfl)) (by decide) (by decide)) d_int (fun _ _ => rfl)) (d_cons (d_var (i := 2) rfl (.inr (.inl rfl)) (by decide) (by decide)) d_nil rfl) rfl) rfl) (by decide) rfl rfl) (d_var (i := 5) rfl (.inl rfl) (by decide) (by decide)))))) d_snil)
      (d_scons (d_ifS (d_tcmp od_inS (d_var (i := 3) rfl (.inl rfl) (by decide) (by decide)) (d_tup (d_cons d_str (d_cons d_str d_nil rfl) rfl)) rfl) (d_scons (d_set (i := 6) sc_holds.nd rfl (.inl rfl) (d_call G_levels (hr.mono (by omega)) rfl T_levels.m T_levels.k T_levels.b (fun _ => pass0A) (d_cons (d_var (i := 0) rfl (.inr (.inl rfl)) (by decide) (by decide)) (d_cons (d_var (i := 1) rfl (.inr (.inl rfl)) (by decide) (by decide)) (d_cons (d_var (i := 2) rfl (.inr (.inl rfl)) (by decide) (by decide)) d_nil rfl) rfl) rfl) (by decide) rfl rfl) rfl (.inl rfl))
      (d_scons (d_set (i := 7) sc_holds.nd rfl (.inl rfl) (d_if (d_tcmp (od_eq hr.units) (d_var (i := 3) rfl (.inl rfl) (by decide) (by decide)) d_str (nomark _)) (d_op od_sub (d_callB cd_len rfl m_len boot_len (d_cons (d_var (i := 6) rfl (.inl rfl) (by decide) (by decide)) d_nil rfl) (by decide) (by decide) rfl rfl) d_int) (d_callB (cd_min2 rfl) rfl m_min boot_min (d_cons (d_ix (d_var (i := 1) rfl (.inr (.inl rfl)) (by decide) (by decide)) d_int (fun _ _ => rfl)) (d_cons (d_op od_sub (d_callB cd_len rfl m_len boot_len (d_cons (d_var (i := 6) rfl (.inl rfl) (by decide) (by decide)) d_nil rfl) (by decide) (by decide) rfl rfl) d_int) d_nil rfl) rfl) (by decide) (by decide) rfl rfl)) rfl (.inl rfl))
      (d_sone (d_ret (d_cmp (od_inLT (hu1 hr)) (d_dget (hud hr) (d_var (i := 2) rfl (.inr (.inl rfl)) (by decide) (by decide)) (d_ix (d_var (i := 1) rfl (.inr (.inl rfl)) (by decide) (by decide)) (d_neg d_int) (fun _ _ => rfl)) (fun _ _ => rfl)) (d_ix (d_var (i := 6) rfl (.inl rfl) (by decide) (by decide)) (d_var (i := 7) rfl (.inl rfl) (by decide) (by decide)) (fun _ _ => rfl)) rfl))))) d_snil)
      (d_scons (d_set (i := 4) sc_holds.nd rfl (.inl rfl) (d_callB cd_len rfl m_len boot_len (d_cons (d_lc rfl sc_holds.nd (d_rng1 rfl m_range (d_cons (d_fld CL_Store NA_Store_size (d_var (i := 0) rfl (.inr (.inl rfl)) (by decide) (by decide)) rfl) d_nil rfl) rfl) (blkOk_by (own := [("t", 8)]) (N := N_holds) (sc := defScope s_holds) (by decide +kernel)) (fun _ _ _ _ _ => (dg_name (i := 8) sc_holds.nd rfl (.inl rfl) (.inr rfl))) (fun _ _ _ _ _ => (d_ifs1 (d_test (d_call G_holds (hr.mono (by omega)) rfl T_holds.m T_holds.k T_holds.b (fun _ => pass0A) (d_cons (d_var (i := 0) rfl (.inr (.inl rfl)) (by decide) (by decide)) (d_cons (d_ix (d_var (i := 1) rfl (.inr (.inl rfl)) (by decide) (by decide)) (d_neg d_int) (fun _ _ => rfl)) (d_cons (d_mrgF (d_var (i := 2) rfl (.inr (.inl rfl)) (by decide) (by decide)) (d_ix (d_var (i := 1) rfl (.inr (.inl rfl)) (by decide) (by decide)) d_int (fun _ _ => rfl)) (d_var (i := 8) rfl (.inl rfl) (by decide) (by decide))) d_nil rfl) rfl) rfl) (by decide) rfl rfl) (by intro _; rfl)))) (fun _ _ _ _ _ => (d_var (i := 8) rfl (.inl rfl) (by decide) (by decide))) (by decide +kernel) (fun _ => rfl)) d_nil rfl) (by decide) (by decide) rfl rfl) rfl (.inl rfl))
      (d_scons (d_ifS (d_tcmp (od_eq hr.units) (d_var (i := 3) rfl (.inl rfl) (by decide) (by decide)) d_str (nomark _)) (d_sone (d_ret (d_call G_passes (hr.mono (by omega)) rfl T_passes.m T_passes.k T_passes.b (fun _ => pass0A) (d_cons (d_ix (d_var (i := 1) rfl (.inr (.inl rfl)) (by decide) (by decide)) d_int (fun _ _ => rfl)) (d_cons (d_var (i := 4) rfl (.inl rfl) (by decide) (by decide)) d_nil rfl) rfl) (by decide) rfl rfl))) d_snil)
      (d_sone (d_ret (d_if (d_tcmp (od_eq hr.units) (d_var (i := 3) rfl (.inl rfl) (by decide) (by decide)) d_str (nomark _)) (d_cmp od_gt (d_var (i := 4) rfl (.inl rfl) (by decide) (by decide)) d_int (nomark _)) (d_cmp (od_eq hr.units) (d_var (i := 4) rfl (.inl rfl) (by decide) (by decide)) (d_fld CL_Store NA_Store_size (d_var (i := 0) rfl (.inr (.inl rfl)) (by decide) (by decide)) rfl) (nomark _))))))))))))) (fun ds O Q E h => ?_) (fun ds O Q E h => h)
  · obtain ⟨n, t, s, e, rfl, _⟩ := h; rfl
  · obtain ⟨n, t, s, e, rfl, g, hf, ho, hd, he, q⟩ := h
    rw [show startD N_holds [.ins C (stF n (kdsOf t)), s.d, .dic (envK e)] = [.sh (.ins C (stF n (kdsOf t))), .sh s.d, .sh (.dic (envK e)), .un, .un, .un, .un, .un, .un] from rfl]
    have hn8 := g.n8
    have ho6 := ok_len ho
    have er : rngD 0 ((n : Int).toNat) = (List.range n).map natD := by rw [Int.toNat_natCast, rng_nats]
    have a1 : ∀ (x : D) (r : List D), atI (x :: r) (0 : Int) = some x := fun x r => EV.ga0
    have at_ : ∀ (s : Say Str), isAtom s = true → FitT t s → s.ok (nmsE e) = true → ∀ (Q : QD) (E : QX), Q (.bl (sem n (rowT t) s (getE e))) O → spM (atomS C) [.ins C (stF n (kdsOf t)), s.d, .dic (envK e)] O Q E := fun s h1 h2 h3 Q E q => spM.of ⟨n, t, s, e, rfl, g, h2, h1, h3, q⟩
    -- the things for which the inner saying holds
    have many : ∀ (x : Str) (b : Say Str) (ys : List D) (s3 s4 s5 s6 s7 : Sl) (R : List D → Ow → Prop), atI ys (-1) = some b.d → atI ys 1 = some (.str x) → b.ok (nmsE e ++ [x]) = true → x ∉ nmsE e → FitT t b → b.deep ≤ d → R (((List.range n).filter fun i => sem n (rowT t) b (updE (getE e) x i)).map natD) O →
        lcW tt1 (dgName 8) (dTest (dCall (holdS d C) (dCons (dVar 0) (dCons (dOp ixD (dVar 1) (dNeg (dC (.int 1)))) (dCons (dMrgF (dVar 2) (dOp ixD (dVar 1) (dC (.int 1))) (dVar 8)) dNil))))) (dVar 8) [.sh (.ins C (stF n (kdsOf t))), .sh (.tup ys), .sh (.dic (envK e)), s3, s4, s5, s6, s7, .un] (rngD 0 ((n : Int).toNat)) [] O R := fun x b ys s3 s4 s5 s6 s7 R e1 e2 hb hx hfb hbd q => by
      rw [er]
      refine lc_filt (fun i => sem n (rowT t) b (updE (getE e) x i)) (fun i hi Qy Qs h1 h2 => ?_) (by rw [List.length_range]; omega) q
      have hin : i < n := List.mem_range.mp hi
      unfold elW
      walk_at "go"
      refine go_mrgF (envK e) (.inr x) (natD i) (envK_nd he) (by rw [envK_len]; omega) (fun O' Q E q => ?_) (fun O' Q E q => ?_) (fun O' Q E q => ?_) ?_
      · walk_at "go"; exact q
      · walk_at "go"; exact q
      · walk_at "go"; exact q
      rw [put_E]
      walk_at "go"
      refine call_holds g hfb (by rw [nms_setE hx]; exact hb) hbd (he.set hx hin) ?_
      rw [get_setE]
      cases hv : sem n (rowT t) b (updE (getE e) x i) with
      | true =>
        walk_at "go"
        exact h1 hv
      | false =>
        walk_at "go"
        exact h2 hv
    cases s with
    | has x a =>
      have := at_ _ rfl hf ho
      dsimp only [Say.d] at this ⊢
      walk_at "go"
      exact this _ _ q
    | link x a b =>
      have := at_ _ rfl hf ho
      dsimp only [Say.d] at this ⊢
      walk_at "go"
      exact this _ _ q
    | same a b =>
      have := at_ _ rfl hf ho
      dsimp only [Say.d] at this ⊢
      walk_at "go"
      exact this _ _ q
    | less a b =>
      have := at_ _ rfl hf ho
      dsimp only [Say.d] at this ⊢
      walk_at "go"
      exact this _ _ q
    | not b =>
      simp only [Say.ok, Bool.and_eq_true] at ho
      simp only [Say.deep] at hd
      dsimp only [Say.d]
      walk_at "go"
      refine call_holds g hf ho.2 (by omega) he ?_
      walk_at "go"
      exact q
    | and b c =>
      simp only [Say.ok, Bool.and_eq_true] at ho
      simp only [Say.deep] at hd
      have hdb : b.deep ≤ d := by have : b.deep ≤ Nat.max b.deep c.deep := Nat.le_max_left _ _; omega
      have hdc : c.deep ≤ d := by have : c.deep ≤ Nat.max b.deep c.deep := Nat.le_max_right _ _; omega
      have hfb : FitT t b := fun z hz => hf z (List.mem_append_left _ hz)
      have hfc : FitT t c := fun z hz => hf z (List.mem_append_right _ hz)
      dsimp only [Say.d]
      walk_at "go"
      refine call_holds g hfb ho.2.1 hdb he ?_
      have q' : Q (.bl (sem n (rowT t) b (getE e) && sem n (rowT t) c (getE e))) O := q
      cases hb : sem n (rowT t) b (getE e) with
      | true =>
        rw [hb, Bool.true_and] at q'
        walk_at "go"
        exact call_holds g hfc ho.2.2 hdc he q'
      | false =>
        rw [hb, Bool.false_and] at q'
        walk_at "go"
        exact q'
    | or b c =>
      simp only [Say.ok, Bool.and_eq_true] at ho
      simp only [Say.deep] at hd
      have hdb : b.deep ≤ d := by have : b.deep ≤ Nat.max b.deep c.deep := Nat.le_max_left _ _; omega
      have hdc : c.deep ≤ d := by have : c.deep ≤ Nat.max b.deep c.deep := Nat.le_max_right _ _; omega
      have hfb : FitT t b := fun z hz => hf z (List.mem_append_left _ hz)
      have hfc : FitT t c := fun z hz => hf z (List.mem_append_right _ hz)
      dsimp only [Say.d]
      walk_at "go"
      refine call_holds g hfb ho.2.1 hdb he ?_
      have q' : Q (.bl (sem n (rowT t) b (getE e) || sem n (rowT t) c (getE e))) O := q
      cases hb : sem n (rowT t) b (getE e) with
      | true =>
        rw [hb, Bool.true_or] at q'
        walk_at "go"
        exact q'
      | false =>
        rw [hb, Bool.false_or] at q'
        walk_at "go"
        exact call_holds g hfc ho.2.2 hdc he q'
    | some x b =>
      simp only [Say.ok, Bool.and_eq_true, decide_eq_true_eq, Bool.not_eq_true', decide_eq_false_iff_not] at ho
      simp only [Say.deep] at hd
      dsimp only [Say.d]
      walk_at "go"
      refine many x b _ _ _ _ _ _ _ rfl rfl ho.2.2 ho.1 hf (by omega) ?_
      walk_at "go"
      show Q (.bl (decide ((0 : Int) < ((((List.range n).filter fun i => sem n (rowT t) b (updE (getE e) x i)).map natD).length : Nat)))) O
      rw [List.length_map, show decide ((0 : Int) < (((List.range n).filter fun i => sem n (rowT t) b (updE (getE e) x i)).length : Nat)) = decide (0 < ((List.range n).filter fun i => sem n (rowT t) b (updE (getE e) x i)).length) from decide_eq_decide.mpr (by omega)]
      exact q
    | all x b =>
      simp only [Say.ok, Bool.and_eq_true, decide_eq_true_eq, Bool.not_eq_true', decide_eq_false_iff_not] at ho
      simp only [Say.deep] at hd
      dsimp only [Say.d]
      walk_at "go"
      refine many x b _ _ _ _ _ _ _ rfl rfl ho.2.2 ho.1 hf (by omega) ?_
      walk_at "go"
      show Q (.bl (decide (((((List.range n).filter fun i => sem n (rowT t) b (updE (getE e) x i)).map natD).length : Nat) = (n : Int)))) O
      rw [List.length_map, decN]
      exact q
    | count x k b =>
      simp only [Say.ok, Bool.and_eq_true, decide_eq_true_eq, Bool.not_eq_true', decide_eq_false_iff_not] at ho
      simp only [Say.deep] at hd
      dsimp only [Say.d]
      walk_at "go"
      refine many x b _ _ _ _ _ _ _ rfl rfl ho.2.2 ho.1.2 hf (by omega) ?_
      walk_at "go"
      rw [List.length_map]
      exact spM.of ⟨k, _, rfl, ho.1.1, q⟩
    | way x y b a c =>
      have hlev : ∀ (Q : QD) (E : QX), Q (.lst ((levL n (fun u v => sem n (rowT t) b (updE (updE (getE e) x u) y v)) (getE e a)).map fun l => .lst (l.map natD))) O → spM (levS d C) [.ins C (stF n (kdsOf t)), (Say.way x y b a c).d, .dic (envK e)] O Q E := fun Q E q => spM.of ⟨n, t, _, e, x, y, b, a, c, rfl, g, hf, rfl, ho, hd, he, q⟩
      have hc := (way_facts (d := d) (s := .way x y b a c) rfl ho hd).2.2.1
      have vc := val_E hc
      have hL := lev_nil (n := n) (st := fun u v => sem n (rowT t) b (updE (updE (getE e) x u) y v)) (a := getE e a)
      have q' : Q (.bl (decide (getE e c ∈ ((levL n (fun u v => sem n (rowT t) b (updE (updE (getE e) x u) y v)) (getE e a)).getLast?).getD []))) O := q
      dsimp only [Say.d] at hlev ⊢
      generalize levL n (fun u v => sem n (rowT t) b (updE (updE (getE e) x u) y v)) (getE e a) = L at hlev q' hL
      have am : atI [D.str "way", .str x, .str y, b.d, .str a, .str c] (-1) = some (.str c) := rfl
      walk_at "go"
      refine hlev _ _ ?_
      walk_at "go"
      rcases List.eq_nil_or_concat L with rfl | ⟨pre, l, eL⟩
      · exact absurd hL.1 (by decide)
      rw [List.concat_eq_append] at eL
      subst eL
      have e1 : atI ((pre ++ [l]).map fun l => D.lst (l.map natD)) (((((pre ++ [l]).map fun l => D.lst (l.map natD)).length : Nat) : Int) - 1) = some (.lst (l.map natD)) := by
        rw [show (((((pre ++ [l]).map fun l => D.lst (l.map natD)).length : Nat) : Int) - 1) = ((pre.length : Nat) : Int) by simp]
        exact atI_nat (by simp)
      refine go_ixL e1 ?_
      walk_at "go"
      refine in_nats ?_
      simpa using q'
    | within m x y b a c =>
      have hlev : ∀ (Q : QD) (E : QX), Q (.lst ((levL n (fun u v => sem n (rowT t) b (updE (updE (getE e) x u) y v)) (getE e a)).map fun l => .lst (l.map natD))) O → spM (levS d C) [.ins C (stF n (kdsOf t)), (Say.within m x y b a c).d, .dic (envK e)] O Q E := fun Q E q => spM.of ⟨n, t, _, e, x, y, b, a, c, rfl, g, hf, rfl, ho, hd, he, q⟩
      have hc := (way_facts (d := d) (s := .within m x y b a c) rfl ho hd).2.2.1
      have vc := val_E hc
      have hL := lev_nil (n := n) (st := fun u v => sem n (rowT t) b (updE (updE (getE e) x u) y v)) (a := getE e a)
      have q' : Q (.bl (decide (getE e c ∈ ((levL n (fun u v => sem n (rowT t) b (updE (updE (getE e) x u) y v)) (getE e a)).getD (min m ((levL n (fun u v => sem n (rowT t) b (updE (updE (getE e) x u) y v)) (getE e a)).length - 1)) [])))) O := q
      dsimp only [Say.d] at hlev ⊢
      generalize levL n (fun u v => sem n (rowT t) b (updE (updE (getE e) x u) y v)) (getE e a) = L at hlev q' hL
      have am : atI [D.str "within", .int m, .str x, .str y, b.d, .str a, .str c] (-1) = some (.str c) := rfl
      walk_at "go"
      refine hlev _ _ ?_
      walk_at "go"
      have e0 : (if ((((L.map fun l => D.lst (l.map natD)).length : Nat) : Int) - 1) < (m : Int) then ((((L.map fun l => D.lst (l.map natD)).length : Nat) : Int) - 1) else (m : Int)) = ((min m (L.length - 1) : Nat) : Int) := by
        rw [List.length_map]
        split <;> omega
      rw [e0]
      have hj : min m (L.length - 1) < L.length := by omega
      have e1 : atI (L.map fun l => D.lst (l.map natD)) ((min m (L.length - 1) : Nat) : Int) = some (.lst ((L.getD (min m (L.length - 1)) []).map natD)) := by
        refine atI_nat ?_
        rw [List.getElem?_map, List.getElem?_eq_getElem hj]
        simp [List.getD, List.getElem?_eq_getElem hj]
      refine go_ixL e1 ?_
      walk_at "go"
      exact in_nats q'
theorem ok_holds {f fA fL fP C : Addr} {fd fdA fdL fdP : FuncData} (F : Fun K "holds" "holds" s_holds f fd) (FL : Fun K "levels" "levels" s_levels fL fdL)
    (G_atom_holds : FnOk P w K mg base CX0 3 fA fdA ["store", "saying", "things"] (spD K (atomS C))) (T_atom_holds : Gf K mg "atom_holds" fA fdA ["store", "saying", "things"])
    (G_passes : FnOk P w K mg base CX0 1 fP fdP ["test", "many"] (spD K passS)) (T_passes : Gf K mg "passes" fP fdP ["test", "many"])
    (T_holds : Gf K mg "holds" f fd ["store", "saying", "things"]) (T_levels : Gf K mg "levels" fL fdL ["store", "saying", "things"])
    (CL_Store : Cls K C) (NA_Store_size : NoAttr K C "size") (m_range : mg "range" = none) (m_len : mg "len" = none) (m_min : mg "min" = none) :
    ∀ d, FnOk P w K mg base CX0 (2 * d + 4) f fd ["store", "saying", "things"] (spD K (holdS d C)) := by
  intro d
  induction d with
  | zero => exact fn_vac fun ds O Q E ⟨n, t, s, e, _, _, _, _, hd, _⟩ => by have := Say.deep_pos s; omega
  | succ d ih => exact holds_step F d G_atom_holds T_atom_holds G_passes T_passes ih T_holds (ok_levels FL d ih T_holds CL_Store NA_Store_size m_range m_len) T_levels CL_Store NA_Store_size m_range m_len m_min
end
end LW
set_option Elab.async false
set_option linter.all false
set_option maxRecDepth 100000
set_option maxHeartbeats 8000000
set_option pp.maxSteps 1500
/-! Question.tables, check_fit, check_inputs, truth -/
namespace LW
open PySem PySem.Spec PyProof.Rows L2 EV PySem.XO PySem.W LamX
local macro_rules | `(tactic| walk_at "fd") => `(tactic| first | assumption | rfl)
local macro_rules | `(tactic| walk_at "ow") => `(tactic| first | assumption | exact oset_self | (rw [oset_ne (by assumption)]; walk_at "ow") | (rw [oset_ne (Ne.symm (by assumption))]; walk_at "ow"))
local macro_rules | `(tactic| walk_at "ix") => `(tactic| first | exact EV.ga0 | exact EV.ga1 | exact EV.ga2 | exact EV.ga3 | exact EV.ga4 | exact EV.ga5 | exact EV.ga6 | exact EV.ga7 | exact EV.ga8 | exact EV.ga9 | exact EV.ga10 | exact EV.ga11 | exact EV.ga12 | exact EV.ga13 | exact EV.ga14 | exact EV.ga15 | assumption | rfl)
local macro_rules | `(tactic| walk_at "sz") => `(tactic| first | exact trivial | (with_reducible assumption) | omega | ((with_reducible refine szR ?_); exact rfl) | ((with_reducible refine szk' ?_); omega) | ((with_reducible refine szl ?_); omega) | exact szlt rfl | rfl | exact ⟨rfl, by assumption⟩ | exact ⟨rfl, rfl⟩ | exact ⟨_, rfl⟩ | ((with_reducible refine szk' ?_); simp only [List.length_cons, List.length_nil, List.length_append, List.length_map]; omega) | (unfold CMul; omega) | (unfold CDiv; omega) | (unfold CPow; exact ⟨by omega, by omega, by omega⟩) | (constructor; · omega; · omega))
local macro_rules | `(tactic| walk_at "val") => `(tactic| first | assumption | exact rfl)
local macro_rules | `(tactic| walk_at "ty") => `(tactic| first | assumption | exact rfl)
local macro_rules | `(tactic| walk_at "bt") => `(tactic| first | exact rfl | assumption)
local macro_rules | `(tactic| walk_at "n") => `(tactic| refine st_norm (by simp only [List.set_cons_succ, List.set_cons_zero]; rfl) ?_)
local macro_rules | `(tactic| walk_at "wh") => `(tactic| with_reducible conv => whnf)
local macro_rules | `(tactic| walk_at "call") => `(tactic| fail)
local macro_rules | `(tactic| walk_at "go1") => `(tactic| first
  | ((with_reducible apply go_var); (· exact rfl))
  | ((with_reducible apply go_varF); (· exact rfl); (· walk_at "ow"))
  | ((with_reducible apply go_set); (· (simp only [wipeD, List.map_cons, List.map_nil, List.set_cons_succ, List.set_cons_zero]; rfl)))
  | ((with_reducible apply go_fld); (· walk_at "fd"))
  | ((with_reducible apply go_fldH); (· walk_at "ow"); (· walk_at "fd"))
  | ((with_reducible apply go_ixT); (· walk_at "ix"))
  | ((with_reducible apply go_ixL); (· walk_at "ix"))
  | ((with_reducible apply go_ixH); (· walk_at "ow"); (· walk_at "ix"))
  | ((with_reducible apply go_bcT); (· walk_at "bt"))
  | ((with_reducible apply go_bcF); (· walk_at "bt"))
  | ((with_reducible apply go_methH); (· walk_at "ow"); (· walk_at "fd"))
  | ((with_reducible apply And.intro); (· walk_at "sz"))
  | ((with_reducible apply go_lm); (· walk_at "ow"))
  | ((with_reducible apply go_lm2); (· walk_at "ow"))
  | ((with_reducible apply go_app); (· walk_at "sz"))
  | ((with_reducible apply go_ext); (· walk_at "sz"))
  | ((with_reducible apply go_setF); (· walk_at "ow"))
  | ((with_reducible apply go_frz); (· walk_at "ow"))
  | ((with_reducible apply go_atK); (· walk_at "val"))
  | ((with_reducible apply go_atS); (· walk_at "val"))
  | ((with_reducible apply go_atI); (· walk_at "val"))
  | ((with_reducible apply go_atHK); (· walk_at "ow"); (· walk_at "val"))
  | ((with_reducible apply go_atHS); (· walk_at "ow"); (· walk_at "val"))
  | ((with_reducible apply go_dputS); (· walk_at "ow"); (· walk_at "sz"))
  | ((with_reducible apply go_dputK); (· walk_at "ow"); (· walk_at "sz"))
  | (with_reducible apply go_eqI)
  | (with_reducible apply go_eqS)
  | (with_reducible apply go_eqB)
  | (with_reducible apply go_neg)
  | (with_reducible apply go_lenL)
  | (with_reducible apply go_lenT)
  | ((with_reducible apply go_lenS); (· walk_at "sz"))
  | ((with_reducible apply go_lenH); (· walk_at "ow"))
  | (with_reducible apply go_tupL)
  | (with_reducible apply go_tupT)
  | ((with_reducible apply go_tupH); (· walk_at "ow"))
  | (with_reducible apply go_listL)
  | (with_reducible apply go_listT)
  | ((with_reducible apply go_listH); (· walk_at "ow"))
  | (with_reducible apply go_all)
  | (with_reducible apply go_any)
  | ((with_reducible apply go_isi); (· exact rfl); (· walk_at "ty"); (· walk_at "val"))
  | ((with_reducible apply go_inS); (· exact rfl))
  | ((with_reducible apply go_inSL); (· exact rfl))
  | ((with_reducible apply go_sortS); (· walk_at "sz"))
  | (with_reducible apply go_own)
  | (with_reducible apply go_pnil)
  | (with_reducible apply go_pcons)
  | ((with_reducible apply go_lcNil); (· exact trivial))
  | (with_reducible apply go_lcCons)
  | (with_reducible apply go_min2)
  | walk_at "call")
local macro_rules | `(tactic| walk_at "go") => `(tactic| (walk_at "wh"; repeat (walk_at "go1"; walk_at "wh")))
abbrev s_check_inputs : Stmt := topS 38
abbrev N_check_inputs : List Str := ["store", "many", "inputs"]
theorem sc_check_inputs : FnScope N_check_inputs ["store", "many", "inputs"] (defScope s_check_inputs) := ⟨rfl, rfl, rfl, by decide +kernel, rfl, by decide +kernel, by decide +kernel⟩
abbrev s_Question_tables : Stmt := clsS 61 1
abbrev N_Question_tables : List Str := ["self", "form"]
theorem sc_Question_tables : FnScope N_Question_tables ["self"] (defScope s_Question_tables) := ⟨rfl, rfl, rfl, by decide +kernel, rfl, by decide +kernel, by decide +kernel⟩
abbrev s_check_fit : Stmt := topS 36
abbrev N_check_fit : List Str := ["store", "tables", "known", "name"]
theorem sc_check_fit : FnScope N_check_fit ["store", "tables"] (defScope s_check_fit) := ⟨rfl, rfl, rfl, by decide +kernel, rfl, by decide +kernel, by decide +kernel⟩
abbrev s_truth : Stmt := topS 44
abbrev N_truth : List Str := ["store", "question", "inputs"]
theorem sc_truth : FnScope N_truth ["store", "question", "inputs"] (defScope s_truth) := ⟨rfl, rfl, rfl, by decide +kernel, rfl, by decide +kernel, by decide +kernel⟩
def tabsE (s : Say Str) : En := s.tabs.foldl (fun e p => setE e p.1 p.2) []
def tabKf (s : Say Str) : Option (Key × D) := (tabOf s).map fun p => (.inr p.1, .int (p.2 : Nat))
def qtabS (C : Addr) : DSp := fun ds O Q _ => ∃ (ns : List Str) (s : Say Str), ds = [qsD C ns s] ∧ Nmd s.nms ∧ s.good ns = true ∧ Q (.dic (envK (tabsE s))) O
def fitS (C : Addr) : DSp := fun ds O Q _ => ∃ (n : Nat) (t : Tb) (e : En), ds = [.ins C (stF n (kdsOf t)), .dic (envK e)] ∧ Gd n t ∧ e.length ≤ 12 ∧ (∀ z ∈ e, ∃ rs, (z.1, z.2, rs) ∈ t) ∧ Q .non O
def inpS (C : Addr) : DSp := fun ds O Q _ => ∃ (n : Nat) (t : Tb) (is : List Nat) (d : D), ds = [.ins C (stF n (kdsOf t)), .int is.length, d] ∧ Gd n t ∧ Seq d (is.map natD) ∧ is.length ≤ 3 ∧ (∀ i ∈ is, i < n) ∧ Q .non O
def truthS (C CQ : Addr) : DSp := fun ds O Q _ => ∃ (n : Nat) (t : Tb) (ns : List Str) (s : Say Str) (is : List Nat) (d : D), ds = [.ins C (stF n (kdsOf t)), qsD CQ ns s, d] ∧ Gd n t ∧ FitT t s ∧ Nmd s.nms ∧ s.good ns = true ∧ ns.Nodup ∧ ns.length ≤ 3 ∧
  Seq d (is.map natD) ∧ ns.length = is.length ∧ (∀ i ∈ is, i < n) ∧ Q (.bl (sem n (rowT t) s (getE (ns.zip is)))) O
theorem go_inK {ad : Addr} {kvs : List (Str × D)} {f : Bool → Bool} {z : Str} {b : Bool} {Q : D → Prop} (e : (kvs.lookup z).isSome = b) (h : Q (.bl (f b))) : inK ad kvs f (.str z) (.opq (.ref ad)) Q := ⟨rfl, by rw [e]; exact h⟩
theorem go_ixK {ad : Addr} {kvs : List (Str × D)} {z : Str} {d : D} {Q : D → Prop} (e : kvs.lookup z = some d) (h : Q d) : ixK ad kvs (.opq (.ref ad)) (.str z) Q := ⟨rfl, by rw [e]; exact h⟩
local macro_rules | `(tactic| walk_at "call") => `(tactic| first | ((with_reducible apply go_inK); (· exact rfl)) | ((with_reducible apply go_ixK); (· exact rfl)))
theorem in_strs {f : Bool → Bool} {x : Str} {ss : List Str} {Q : D → Prop} (hx : x ∈ ss) (hn : isNm (.str x) = true) (h : ∀ y ∈ ss, isNm (.str y) = true) (hl : ss.length ≤ 60) (q : Q (.bl (f true))) : inD f (.str x) (.lst (ss.map D.str)) Q := by
  have e : ((ss.map PyData.str).any fun z => PyData.eqv z (.str x)) = true := List.any_eq_true.mpr ⟨_, List.mem_map_of_mem hx, by simp [PyData.eqv]⟩
  have hs : SeqAt.shaped (.str x) = true := by simp [SeqAt.shaped, PyData.canLay0, PyData.depth, nm_ok hn]
  have hs2 : SeqAt.shaped (.list (ss.map PyData.str)) = true := by
    have := shp_str h
    simp [SeqAt.shaped, PyData.canLay0, PyData.depth, this.1]
    omega
  have q2 : (match toP (.str x), toPs (ss.map D.str) with
    | some x, some ys => SeqAt.shaped x = true ∧ SeqAt.shaped (.list ys) = true ∧ Q (.bl (f (ys.any fun z => PyData.eqv z x)))
    | _, _ => False) := by
    rw [toPs_strs]
    exact ⟨hs, hs2, by rw [e]; exact q⟩
  unfold inD
  split
  · rename_i h1 h2; cases h2
  · rename_i h1 h2; cases h2; exact q2
  · rename_i h1 h2; first | exact absurd rfl (h1 _ _) | exact absurd rfl (h2 _) | exact (h2 _ rfl).elim | exact (h1 _ _ rfl).elim | (simp at h1 h2)
theorem go_listK {O : Ow} {kds : List (Key × D)} {R : D → Prop} (h : R (.lst (kds.map fun kd => kD kd.1))) : listK O [.dic kds] R := h
theorem good_ok {s : Say Str} {ns : List Str} (h : s.good ns = true) : s.ok ns = true := by
  unfold Say.good at h
  simp only [Bool.and_eq_true, decide_eq_true_eq] at h
  exact h.1.2
theorem setE_mem {e : En} {x : Str} {t : Nat} {z : Str × Nat} (h : z ∈ setE e x t) : z ∈ e ∨ z = (x, t) := by
  unfold setE at h
  split at h
  · obtain ⟨y, hy, rfl⟩ := List.mem_map.mp h
    by_cases e1 : y.1 = x
    · rw [if_pos e1, e1]; exact .inr rfl
    · rw [if_neg e1]; exact .inl hy
  · rcases List.mem_append.mp h with h | h
    · exact .inl h
    · simp at h; exact .inr h
theorem setE_len {e : En} {x : Str} {t : Nat} : (setE e x t).length ≤ e.length + 1 := by
  unfold setE
  split
  · rw [List.length_map]; omega
  · rw [List.length_append]; exact Nat.le_refl _
theorem foldE_mem : ∀ {l : List (Str × Nat)} {e : En} {z : Str × Nat}, z ∈ l.foldl (fun e p => setE e p.1 p.2) e → z ∈ e ∨ z ∈ l
  | [], e, z, h => .inl h
  | p :: l, e, z, h => by
    rw [List.foldl_cons] at h
    rcases foldE_mem h with h | h
    · rcases setE_mem h with h | h
      · exact .inl h
      · exact .inr (by rw [h]; exact List.mem_cons_self)
    · exact .inr (List.mem_cons_of_mem _ h)
theorem foldE_len : ∀ {l : List (Str × Nat)} {e : En}, (l.foldl (fun e p => setE e p.1 p.2) e).length ≤ e.length + l.length
  | [], e => Nat.le_refl _
  | p :: l, e => by
    rw [List.foldl_cons, List.length_cons]
    have := foldE_len (l := l) (e := setE e p.1 p.2)
    have := setE_len (e := e) (x := p.1) (t := p.2)
    omega
theorem fold_tabs : ∀ (l : List (Say Str)) (e : En), foldK tabKf (envK e) l = envK ((l.filterMap tabOf).foldl (fun e p => setE e p.1 p.2) e)
  | [], e => rfl
  | s :: l, e => by
    rw [List.filterMap_cons]
    show foldK tabKf (match tabKf s with
      | some kv => putKD (envK e) kv.1 kv.2
      | none => envK e) l = _
    unfold tabKf
    cases tabOf s with
    | none => exact fold_tabs l e
    | some p =>
      show foldK tabKf (putKD (envK e) (.inr p.1) (.int p.2)) l = _
      rw [put_E]
      exact fold_tabs l _
theorem tabsE_len {s : Say Str} {ns : List Str} (h : s.good ns = true) : (tabsE s).length ≤ 12 := by
  have h1 := (good_deep h).2
  have h2 := foldE_len (l := s.tabs) (e := [])
  have h3 : s.tabs.length ≤ s.forms.length := by rw [tabs_forms]; exact List.length_filterMap_le _ _
  unfold tabsE
  have : ([] : En).length = 0 := rfl
  omega
theorem good_frm {s : Say Str} {ns : List Str} (h : s.good ns = true) (hs : Nmd s.nms) : Frm 6 s.d := frm_of (ns := ns) (by rw [say_ok s 6 ns hs, decide_eq_true (good_deep h).1, good_ok h]; rfl)
section
variable {P : Program} {w : World} {K : PySem.W.Frag} {mg : Str → Option Value} {base : Heap} {O : Ow} {Q : QD} {E : QX}
theorem ok_Question_tables {f fF C aP : Addr} {fd fdF : FuncData} (F : Fun K "tables" "Question.tables" s_Question_tables f fd)
    (G_forms_in : FnOk P w K mg base CX0 8 fF fdF ["saying"] (spD K (formS 6))) (T_forms_in : Gf K mg "forms_in" fF fdF ["saying"])
    (CL_Question : Cls K C) (NA_Question_saying : NoAttr K C "saying") (M_PLACES : mg "PLACES" = some (.ref aP)) (T_PLACES : TabK K w aP placesT) :
    FnOk P w K mg base (L2.CX P w) 9 f fd ["self"] (spD K (qtabS C)) := by
  refine fn_exc F sc_Question_tables (fun ds O Q E h => ?_) (fun cdv A outer s H E hr tk =>
    (d_sone (d_ret (d_frz (d_dcO rfl sc_Question_tables.nd (d_iter (d_call G_forms_in (hr.mono (by decide)) rfl T_forms_in.m T_forms_in.k T_forms_in.b (fun _ => pass0A) (d_cons (d_fld CL_Question NA_Question_saying (d_var (i := 0) rfl (.inl rfl) (by decide) (by decide)) rfl) d_nil rfl) (by decide) rfl rfl)) (blkOk_by (own := [("form", 1)]) (N := N_Question_tables) (sc := defScope s_Question_tables) (by decide +kernel)) (fun _ _ _ _ _ => (dg_name (i := 1) sc_Question_tables.nd rfl (.inl rfl) (.inr rfl))) (fun _ _ _ _ _ => (d_ifs1 (d_tcmp (od_inK T_PLACES) (d_ix (d_var (i := 1) rfl (.inl rfl) (by decide) (by decide)) d_int (fun _ _ => rfl)) (d_gdict rfl M_PLACES (by decide)) rfl))) (fun _ _ _ _ _ => (d_ix (d_var (i := 1) rfl (.inl rfl) (by decide) (by decide)) d_int (fun _ _ => rfl))) (fun _ _ _ _ _ => (d_ixK T_PLACES (d_gdict rfl M_PLACES (by decide)) (d_ix (d_var (i := 1) rfl (.inl rfl) (by decide) (by decide)) d_int (fun _ _ => rfl)) (fun _ _ => rfl))) (by decide +kernel) (fun _ => rfl)))))) (fun ds O Q E h => ?_)
  · obtain ⟨ns, s, rfl, _⟩ := h; rfl
  · obtain ⟨ns, s, rfl, hs, hg, q⟩ := h
    rw [show startD N_Question_tables [qsD C ns s] = [.sh (qsD C ns s), .un] from rfl]
    have hl := (good_deep hg).2
    walk_at "go"
    refine spM.of ⟨s.d, rfl, by decide, good_frm hg hs, ?_⟩
    rw [forms_ok 6 s (good_deep hg).1]
    refine dcW_fold (l := s.forms) (acc := []) Say.d tabKf (fun z hz Qz Qs h1 h2 => ?_) (by show 0 + s.forms.length ≤ 1000; omega) ?_
    · cases z with
      | has x a =>
        have := h1 (.inr x) (.int 1) rfl
        dsimp only [Say.d]
        walk_at "go"
        exact this
      | link x a b =>
        have := h1 (.inr x) (.int 2) rfl
        dsimp only [Say.d]
        walk_at "go"
        exact this
      | _ =>
        have := h2 rfl
        dsimp only [Say.d]
        walk_at "go"
        exact this
    intro p np
    walk_at "go"
    rw [odel_oset np]
    have e := fold_tabs s.forms []
    rw [← tabs_forms] at e
    have e2 : foldK tabKf [] s.forms = envK (tabsE s) := e
    rw [e2]
    exact q
theorem ok_check_fit {f fT fP C : Addr} {fd fdT fdP : FuncData} (F : Fun K "check_fit" "check_fit" s_check_fit f fd) {A : Str → Addr} (E_Unfit : Err P w K mg base 2 (A "Unfit") "Unfit" ["name"]) (M_Unfit : mg "Unfit" = some (.ref (A "Unfit")))
    (G_Store_tables : FnOk P w K mg base (L2.CX P w) 4 fT fdT ["self"] (spD K (tabsS C))) (ME_Store_tables : Meth K C "tables" fT) (B_Store_tables : Binds K fdT ["self"] [])
    (G_Store_places : FnOk P w K mg base (L2.CX P w) 6 fP fdP ["self", "name"] (spD K (placesS C))) (ME_Store_places : Meth K C "places" fP) (B_Store_places : Binds K fdP ["self", "name"] []) (CL_Store : Cls K C)
    (m_list : mg "list" = none) (m_sorted : mg "sorted" = none) :
    FnOk P w K mg base (L2.CX P w) 7 f fd ["store", "tables"] (spD K (fitS C)) := by
  refine fn_exc F sc_check_fit (fun ds O Q E h => ?_) (fun cdv A outer s H E hr tk =>
    (d_scons (d_set (i := 2) sc_check_fit.nd rfl (.inl rfl) (d_meth0 (fun _ => rfl) CL_Store ME_Store_tables G_Store_tables (hr.mono (by decide)) B_Store_tables (fun pins σ H' s1 e s' I c => tk_pass tk σ pins H' s1 e s' I c) (d_var (i := 0) rfl (.inl rfl) (by decide) (by decide)) rfl) rfl (.inl rfl))
      (d_sone (d_for (passes_of rfl) rfl (d_iter (d_callB (cd_sortS rfl) rfl m_sorted boot_sorted (d_cons (d_callTy (cd_listK rfl) rfl m_list boot_list (d_cons (d_var (i := 1) rfl (.inl rfl) (by decide) (by decide)) d_nil rfl) (by decide) (by decide) rfl rfl) d_nil rfl) (by decide) (by decide) rfl rfl)) (dg_name (i := 3) sc_check_fit.nd rfl (.inl rfl) (.inl rfl)) (d_sone (d_ifS (DPW.pt (d_wor (d_tcmp (od_notin (hu1 hr)) (d_var (i := 3) rfl (.inl rfl) (by decide) (by decide)) (d_var (i := 2) rfl (.inl rfl) (by decide) (by decide)) rfl) (d_or1 (d_tcmp (od_ne hr.units) (d_meth (fun _ => rfl) CL_Store ME_Store_places G_Store_places (hr.mono (by decide)) B_Store_places (fun pins σ H' s1 e s' I c => tk_pass tk σ pins H' s1 e s' I c) (d_var (i := 0) rfl (.inl rfl) (by decide) (by decide)) (d_cons (d_var (i := 3) rfl (.inl rfl) (by decide) (by decide)) d_nil rfl) rfl rfl rfl) (d_dget (hud hr) (d_var (i := 1) rfl (.inl rfl) (by decide) (by decide)) (d_var (i := 3) rfl (.inl rfl) (by decide) (by decide)) (fun _ _ => rfl)) (nomark _))))) (d_sone (d_raise rfl tk E_Unfit (hr.mono (by decide)) rfl M_Unfit (d_cons (d_var (i := 3) rfl (.inl rfl) (by decide) (by decide)) d_nil rfl) (by decide) rfl rfl)) d_snil)) (fun _ => rfl))))) (fun ds O Q E h => ?_)
  · obtain ⟨n, t, e, rfl, _⟩ := h; rfl
  · obtain ⟨n, t, e, rfl, g, hl, hf, q⟩ := h
    rw [show startD N_check_fit [.ins C (stF n (kdsOf t)), .dic (envK e)] = [.sh (.ins C (stF n (kdsOf t))), .sh (.dic (envK e)), .un, .un] from rfl]
    refine go_st fun N hN => ?_
    walk_at "go"
    refine spM.of (call_tabs g ?_)
    walk_at "go"
    subst hN
    walk_at "go"
    refine go_listK ?_
    have ek : ((envK e).map fun kd => kD kd.1) = (nmsE e).map D.str := by unfold envK nmsE; rw [List.map_map, List.map_map]; rfl
    rw [ek]
    walk_at "wh"
    refine go_sortS (by unfold nmsE; rw [List.length_map]; omega) ?_
    walk_at "go"
    have hk : ∀ y ∈ srtS (nmsT t), isNm (.str y) = true := fun y hy => by
      obtain ⟨z, hz, rfl⟩ := List.mem_map.mp ((srtS_perm _).mem_iff.mp hy)
      exact (g.ok z hz).1
    have hlen : (srtS (nmsT t)).length ≤ 4 := by rw [(srtS_perm _).length_eq, nmsT, List.length_map]; exact g.le
    refine go_for _ (fun _ ρ O1 => O1 = O ∧ ∃ s3, ρ = [.sh (.ins C (stF n (kdsOf t))), .sh (.dic (envK e)), .sh (.lst ((srtS (nmsT t)).map D.str)), s3]) ⟨rfl, _, rfl⟩ (fun i d hd ρ O1 hJ N hN => ?_) fun r O1 hJ => ?_
    · obtain ⟨rfl, s3, rfl⟩ := hJ
      rw [List.getElem?_map] at hd
      obtain ⟨x, hx, rfl⟩ := Option.map_eq_some_iff.mp hd
      have hxe : x ∈ nmsE e := (srtS_perm _).mem_iff.mp (List.mem_of_getElem? hx)
      obtain ⟨z, hz, rfl⟩ := List.mem_map.mp hxe
      have hv := val_E hxe
      have hgz : ∃ rs, (z.1, getE e z.1, rs) ∈ t := by
        obtain ⟨y, hy, e1⟩ := find_E hxe
        have : getE e z.1 = y.2 := by unfold getE; rw [hy]; rfl
        rw [this, ← e1]
        exact hf y (List.mem_of_find?_eq_some hy)
      obtain ⟨rs, hm⟩ := hgz
      have hin : z.1 ∈ srtS (nmsT t) := (srtS_perm _).mem_iff.mpr (List.mem_map_of_mem hm)
      refine go_set (ρ' := [.sh (.ins C (stF n (kdsOf t))), .sh (.dic (envK e)), .sh (.lst ((srtS (nmsT t)).map D.str)), .sh (.str z.1)]) rfl ?_
      walk_at "go"
      refine in_strs hin (hk _ hin) hk (by omega) ?_
      walk_at "go"
      refine spM.of ⟨n, t, z.1, _, rs, rfl, g, hm, ?_⟩
      walk_at "go"
      rw [decide_eq_true rfl]
      walk_at "go"
      exact hN _ _ ⟨rfl, _, rfl⟩
    · obtain ⟨rfl, s3, rfl⟩ := hJ
      exact q
theorem ok_check_inputs {f fL fT C : Addr} {fd fdL fdT : FuncData} (F : Fun K "check_inputs" "check_inputs" s_check_inputs f fd) {A : Str → Addr} (E_InvalidInputs : Err P w K mg base 2 (A "InvalidInputs") "InvalidInputs" ["given"]) (M_InvalidInputs : mg "InvalidInputs" = some (.ref (A "InvalidInputs")))
    (G_is_listed : FnOk P w K mg base CX0 1 fL fdL ["value"] (spD K listedS)) (T_is_listed : Gf K mg "is_listed" fL fdL ["value"])
    (G_are_things : FnOk P w K mg base CX0 2 fT fdT ["values", "many", "size"] (spD K thS)) (T_are_things : Gf K mg "are_things" fT fdT ["values", "many", "size"])
    (CL_Store : Cls K C) (NA_Store_size : NoAttr K C "size") (m_tuple : mg "tuple" = none) :
    FnOk P w K mg base (L2.CX P w) 4 f fd ["store", "many", "inputs"] (spD K (inpS C)) := by
  refine fn_exc F sc_check_inputs (fun ds O Q E h => ?_) (fun cdv A outer s H E hr tk =>
    (d_scons (d_ifS (d_tnot (d_test (d_call G_is_listed (hr.mono (by decide)) rfl T_is_listed.m T_is_listed.k T_is_listed.b (fun _ => pass0A) (d_cons (d_var (i := 2) rfl (.inl rfl) (by decide) (by decide)) d_nil rfl) (by decide) rfl rfl) (by intro _; rfl))) (d_sone (d_raise rfl tk E_InvalidInputs (hr.mono (by decide)) rfl M_InvalidInputs (d_cons (d_tup (d_cons (d_var (i := 2) rfl (.inl rfl) (by decide) (by decide)) d_nil rfl)) d_nil rfl) (by decide) rfl rfl)) d_snil)
      (d_sone (d_ifS (d_tnot (d_test (d_call G_are_things (hr.mono (by decide)) rfl T_are_things.m T_are_things.k T_are_things.b (fun _ => pass0A) (d_cons (d_var (i := 2) rfl (.inl rfl) (by decide) (by decide)) (d_cons (d_var (i := 1) rfl (.inl rfl) (by decide) (by decide)) (d_cons (d_fld CL_Store NA_Store_size (d_var (i := 0) rfl (.inl rfl) (by decide) (by decide)) rfl) d_nil rfl) rfl) rfl) (by decide) rfl rfl) (by intro _; rfl))) (d_sone (d_raise rfl tk E_InvalidInputs (hr.mono (by decide)) rfl M_InvalidInputs (d_cons (d_callTy cd_tuple rfl m_tuple boot_tuple (d_cons (d_var (i := 2) rfl (.inl rfl) (by decide) (by decide)) d_nil rfl) (by decide) (by decide) rfl rfl) d_nil rfl) (by decide) rfl rfl)) d_snil)))) (fun ds O Q E h => ?_)
  · obtain ⟨n, t, is, d, rfl, _⟩ := h; rfl
  · obtain ⟨n, t, is, d, rfl, g, hd, h3, hi, q⟩ := h
    rw [show startD N_check_inputs [.ins C (stF n (kdsOf t)), .int is.length, d] = [.sh (.ins C (stF n (kdsOf t))), .sh (.int is.length), .sh d] from rfl]
    have hty : (tyD d).isSome = true := by rcases hd with rfl | rfl <;> rfl
    have hisl : isLst d = true := by rcases hd with rfl | rfl <;> rfl
    have hn8 := g.n8
    have hln : (is.map natD).length = is.length := List.length_map _
    refine go_st fun N hN => ?_
    walk_at "go"
    refine spM.of ⟨d, rfl, hty, ?_⟩
    rw [hisl]
    walk_at "go"
    subst hN
    walk_at "go"
    refine spM.of ⟨d, is.map natD, is.length, n, rfl, hd, by omega, fun x hx => by obtain ⟨i, _, rfl⟩ := List.mem_map.mp hx; rfl, ?_⟩
    have e : isTh (is.map natD) is.length n = true := by
      unfold isTh
      rw [hln, decide_eq_true rfl, Bool.true_and]
      refine List.all_eq_true.mpr fun x hx => ?_
      obtain ⟨i, h, rfl⟩ := List.mem_map.mp hx
      have := hi i h
      unfold natD isNum
      first | (simp; omega) | skip
    rw [e]
    walk_at "go"
    exact q
theorem ok_truth {f fC fT fI fH fN C CQ : Addr} {fd fdC fdT fdI fdH fdN : FuncData} (F : Fun K "truth" "truth" s_truth f fd)
    (G_check_fit : FnOk P w K mg base (L2.CX P w) 7 fC fdC ["store", "tables"] (spD K (fitS C))) (T_check_fit : Gf K mg "check_fit" fC fdC ["store", "tables"])
    (G_Question_tables : FnOk P w K mg base (L2.CX P w) 9 fT fdT ["self"] (spD K (qtabS CQ))) (ME_Question_tables : Meth K CQ "tables" fT) (B_Question_tables : Binds K fdT ["self"] [])
    (G_check_inputs : FnOk P w K mg base (L2.CX P w) 4 fI fdI ["store", "many", "inputs"] (spD K (inpS C))) (T_check_inputs : Gf K mg "check_inputs" fI fdI ["store", "many", "inputs"])
    (G_holds : FnOk P w K mg base CX0 16 fH fdH ["store", "saying", "things"] (spD K (holdS 6 C))) (T_holds : Gf K mg "holds" fH fdH ["store", "saying", "things"])
    (G_named : FnOk P w K mg base CX0 1 fN fdN ["question", "inputs"] (spD K (namedS CQ))) (T_named : Gf K mg "named" fN fdN ["question", "inputs"])
    (CL_Question : Cls K CQ) (NA_Question_names : NoAttr K CQ "names") (NA_Question_saying : NoAttr K CQ "saying") (m_len : mg "len" = none) :
    FnOk P w K mg base (L2.CX P w) 17 f fd ["store", "question", "inputs"] (spD K (truthS C CQ)) := by
  refine fn_exc F sc_truth (fun ds O Q E h => ?_) (fun cdv A outer s H E hr tk =>
    (d_scons (d_expr (d_call G_check_fit (hr.mono (by decide)) rfl T_check_fit.m T_check_fit.k T_check_fit.b (fun σ => tk_pass tk σ) (d_cons (d_var (i := 0) rfl (.inl rfl) (by decide) (by decide)) (d_cons (d_meth0 (fun _ => rfl) CL_Question ME_Question_tables G_Question_tables (hr.mono (by decide)) B_Question_tables (fun pins σ H' s1 e s' I c => tk_pass tk σ pins H' s1 e s' I c) (d_var (i := 1) rfl (.inl rfl) (by decide) (by decide)) rfl) d_nil rfl) rfl) (by decide) rfl rfl) rfl)
      (d_scons (d_expr (d_call G_check_inputs (hr.mono (by decide)) rfl T_check_inputs.m T_check_inputs.k T_check_inputs.b (fun σ => tk_pass tk σ) (d_cons (d_var (i := 0) rfl (.inl rfl) (by decide) (by decide)) (d_cons (d_callB cd_len rfl m_len boot_len (d_cons (d_fld CL_Question NA_Question_names (d_var (i := 1) rfl (.inl rfl) (by decide) (by decide)) rfl) d_nil rfl) (by decide) (by decide) rfl rfl) (d_cons (d_var (i := 2) rfl (.inl rfl) (by decide) (by decide)) d_nil rfl) rfl) rfl) (by decide) rfl rfl) rfl)
      (d_sone (d_ret (d_call G_holds (hr.mono (by decide)) rfl T_holds.m T_holds.k T_holds.b (fun _ => pass0A) (d_cons (d_var (i := 0) rfl (.inl rfl) (by decide) (by decide)) (d_cons (d_fld CL_Question NA_Question_saying (d_var (i := 1) rfl (.inl rfl) (by decide) (by decide)) rfl) (d_cons (d_call G_named (hr.mono (by decide)) rfl T_named.m T_named.k T_named.b (fun _ => pass0A) (d_cons (d_var (i := 1) rfl (.inl rfl) (by decide) (by decide)) (d_cons (d_var (i := 2) rfl (.inl rfl) (by decide) (by decide)) d_nil rfl) rfl) (by decide) rfl rfl) d_nil rfl) rfl) rfl) (by decide) rfl rfl)))))) (fun ds O Q E h => ?_)
  · obtain ⟨n, t, ns, s, is, d, rfl, _⟩ := h; rfl
  · obtain ⟨n, t, ns, s, is, d, rfl, g, hft, hs, hg, hn, h3, hd, hl, hi, q⟩ := h
    rw [show startD N_truth [.ins C (stF n (kdsOf t)), qsD CQ ns s, d] = [.sh (.ins C (stF n (kdsOf t))), .sh (qsD CQ ns s), .sh d] from rfl]
    have hlz : (nmsE (ns.zip is)) = ns := zip_nms hl
    have he : EnvOk n (ns.zip is) := ⟨by rw [hlz]; exact hn, fun z hz => hi _ (List.of_mem_zip hz).2⟩
    refine go_st fun N hN => ?_
    walk_at "go"
    refine spM.of ⟨ns, s, rfl, hs, hg, ?_⟩
    walk_at "go"
    refine spM.of ⟨n, t, tabsE s, rfl, g, tabsE_len hg, fun z hz => ?_, ?_⟩
    · rcases foldE_mem hz with h | h
      · cases h
      · exact hft z h
    walk_at "go"
    subst hN
    refine go_st fun N hN => ?_
    walk_at "go"
    refine spM.of ⟨n, t, is, d, by rw [List.length_map, hl], g, hd, by omega, hi, ?_⟩
    walk_at "go"
    subst hN
    walk_at "go"
    refine spM.of ⟨ns, s, is, d, rfl, hd, hl, h3, hn, ?_⟩
    walk_at "go"
    refine call_holds g hft (by rw [hlz]; exact good_ok hg) (good_deep hg).1 he ?_
    walk_at "go"
    exact q
end
end LW
set_option Elab.async false
set_option linter.all false
set_option maxRecDepth 100000
set_option maxHeartbeats 4000000
/-! ways: what is reached by steps -/
namespace Wy
open LW (nextL growL levL)
/-- t is reached from a by d steps -/
inductive Rch (n : Nat) (st : Nat → Nat → Bool) (a : Nat) : Nat → Nat → Prop
  | z : Rch n st a 0 a
  | s {d u v : Nat} : Rch n st a d u → st u v = true → v < n → Rch n st a (d + 1) v
variable {n : Nat} {st : Nat → Nat → Bool} {a : Nat}
theorem Rch.lt (ha : a < n) {d t : Nat} (h : Rch n st a d t) : t < n := by
  cases h with
  | z => exact ha
  | s _ _ h => exact h
theorem Rch.first {u : Nat} (h1 : st a u = true) (hu : u < n) {d t : Nat} (h : Rch n st u d t) : Rch n st a (d + 1) t := by
  induction h with
  | z => exact .s .z h1 hu
  | s _ h2 h3 ih => exact .s ih h2 h3
theorem Rch.rev {st' : Nat → Nat → Bool} (hs : ∀ u v, st' v u = st u v) (ha : a < n) {d t : Nat} (h : Rch n st a d t) : Rch n st' t d a := by
  induction h with
  | z => exact .z
  | s h1 h2 h3 ih => exact Rch.first (by rw [hs]; exact h2) (h1.lt ha) ih
def iter (n : Nat) (st : Nat → Nat → Bool) : Nat → List Nat → List Nat
  | 0, l => l
  | k + 1, l => iter n st k (nextL n st l)
theorem iter_succ (k : Nat) (l : List Nat) : iter n st (k + 1) l = nextL n st (iter n st k l) := by
  induction k generalizing l with
  | zero => rfl
  | succ k ih => rw [iter, ih]; rfl
theorem mem_next {l : List Nat} {t : Nat} : t ∈ nextL n st l ↔ t < n ∧ (t ∈ l ∨ ∃ s ∈ l, st s t = true) := by
  unfold nextL
  rw [List.mem_filter, List.mem_range, Bool.or_eq_true, decide_eq_true_eq, List.any_eq_true]
theorem mem_iter (ha : a < n) {k t : Nat} : t ∈ iter n st k [a] ↔ ∃ d, d ≤ k ∧ Rch n st a d t := by
  induction k generalizing t with
  | zero =>
    constructor
    · intro h
      have e : t = a := by simpa [iter] using h
      subst e
      exact ⟨0, Nat.le_refl _, .z⟩
    · rintro ⟨d, hd, h⟩
      obtain rfl : d = 0 := by omega
      cases h
      simp [iter]
  | succ k ih =>
    rw [iter_succ, mem_next]
    constructor
    · rintro ⟨ht, h | ⟨s, h, h2⟩⟩
      · obtain ⟨d, hd, h⟩ := ih.mp h
        exact ⟨d, by omega, h⟩
      · obtain ⟨d, hd, h⟩ := ih.mp h
        exact ⟨d + 1, by omega, .s h h2 ht⟩
    · rintro ⟨d, hd, h⟩
      refine ⟨h.lt ha, ?_⟩
      by_cases e : d ≤ k
      · exact .inl (ih.mpr ⟨d, e, h⟩)
      · cases h with
        | z => omega
        | s h1 h2 h3 => exact .inr ⟨_, ih.mpr ⟨_, by omega, h1⟩, h2⟩
theorem next_nodup {l : List Nat} : (nextL n st l).Nodup := by unfold nextL; exact List.nodup_range.filter _
theorem next_lt {l : List Nat} : ∀ t ∈ nextL n st l, t < n := fun t h => (mem_next.mp h).1
theorem sub_next {l : List Nat} (h : ∀ t ∈ l, t < n) : l ⊆ nextL n st l := fun t ht => mem_next.mpr ⟨h t ht, .inl ht⟩
theorem sub_of_len {l m : List Nat} (hl : l.Nodup) (s : l ⊆ m) (hm : m.length ≤ l.length) (hmn : m.Nodup) : m ⊆ l := by
  intro t ht
  refine Classical.byContradiction fun hn => ?_
  have h1 : (t :: l).Nodup := List.nodup_cons.mpr ⟨hn, hl⟩
  have h2 : (t :: l).length ≤ m.length := h1.length_le_of_subset fun x hx => by
    rcases List.mem_cons.mp hx with rfl | hx
    · exact ht
    · exact s hx
  rw [List.length_cons] at h2
  omega
/-- where nothing is added, nothing is ever added -/
theorem still {l : List Nat} (h : ∀ t ∈ l, t < n) (hn : l.Nodup) (e : (nextL n st l).length = l.length) : ∀ k t, t ∈ iter n st k l ↔ t ∈ l := by
  have hs : ∀ t, t ∈ nextL n st l ↔ t ∈ l := fun t => ⟨fun z => sub_of_len hn (sub_next h) (by omega) next_nodup z, fun z => sub_next h z⟩
  intro k
  induction k with
  | zero => exact fun t => Iff.rfl
  | succ k ih =>
    intro t
    rw [iter_succ, mem_next]
    constructor
    · rintro ⟨h1, h2 | ⟨s, h2, h3⟩⟩
      · exact (ih t).mp h2
      · exact (hs t).mp (mem_next.mpr ⟨h1, .inr ⟨s, (ih s).mp h2, h3⟩⟩)
    · intro h2
      exact ⟨h t h2, .inl ((ih t).mpr h2)⟩
theorem grow_at : ∀ (k : Nat) {l : List Nat}, (∀ t ∈ l, t < n) → l.Nodup → n < l.length + k → ∀ j t, t ∈ (growL n st k l).getD (min j ((growL n st k l).length - 1)) [] ↔ t ∈ iter n st j l
  | 0, l, h, hn, hk, j, t => by
    have := hn.length_le_of_subset (l₂ := List.range n) fun t ht => List.mem_range.mpr (h t ht)
    rw [List.length_range] at this
    omega
  | k + 1, l, h, hn, hk, j, t => by
    rw [growL]
    split
    · rename_i e
      rw [still h hn e j t]
      simp
    · rename_i e
      cases j with
      | zero => simp [iter]
      | succ j =>
        have hle : l.length ≤ (nextL n st l).length := hn.length_le_of_subset (sub_next h)
        have ih := grow_at k (l := nextL n st l) next_lt next_nodup (by omega) j t
        rw [iter, ← ih]
        have h1 : 1 ≤ (growL n st k (nextL n st l)).length := by cases k <;> (unfold growL; first | simp | (split <;> simp))
        rw [List.length_cons, show min (j + 1) ((growL n st k (nextL n st l)).length + 1 - 1) = min j ((growL n st k (nextL n st l)).length - 1) + 1 by omega, List.getD_cons_succ]
theorem grow_len : ∀ (k : Nat) (l : List Nat), 1 ≤ (growL n st k l).length ∧ (growL n st k l).length ≤ k + 1
  | 0, l => ⟨Nat.le_refl _, Nat.le_refl _⟩
  | k + 1, l => by
    unfold growL
    split
    · exact ⟨Nat.le_refl _, by simp⟩
    · have := grow_len k (nextL n st l)
      rw [List.length_cons]; omega
theorem lev_at (ha : a < n) (j t : Nat) : t ∈ (levL n st a).getD (min j ((levL n st a).length - 1)) [] ↔ ∃ d, d ≤ j ∧ Rch n st a d t := by
  unfold levL
  rw [grow_at n (fun t h => by have e : t = a := by simpa using h
                               subst e; exact ha) (by simp) (by simp)]
  exact mem_iter ha
theorem lev_last (ha : a < n) (t : Nat) : t ∈ ((levL n st a).getLast?).getD [] ↔ ∃ d, Rch n st a d t := by
  have hl : 1 ≤ (levL n st a).length ∧ (levL n st a).length ≤ n + 1 := grow_len n [a]
  have e : ((levL n st a).getLast?).getD [] = (levL n st a).getD ((levL n st a).length - 1) [] := by
    rw [List.getLast?_eq_getElem?, List.getD_eq_getElem?_getD]
  rw [e]
  constructor
  · intro h
    have := (lev_at ha ((levL n st a).length - 1) t).mp (by rwa [Nat.min_self])
    obtain ⟨d, _, h⟩ := this
    exact ⟨d, h⟩
  · rintro ⟨d, h⟩
    have h1 := (lev_at (st := st) ha (max d ((levL n st a).length - 1)) t).mpr ⟨d, by omega, h⟩
    rwa [show min (max d ((levL n st a).length - 1)) ((levL n st a).length - 1) = (levL n st a).length - 1 by omega] at h1
/-- what is reached is reached by at most n steps -/
theorem Rch.short (ha : a < n) {d t : Nat} (h : Rch n st a d t) : ∃ d', d' ≤ n ∧ Rch n st a d' t := by
  have hl : 1 ≤ (levL n st a).length ∧ (levL n st a).length ≤ n + 1 := grow_len n [a]
  have h1 := (lev_at (st := st) ha (max d n) t).mpr ⟨d, by omega, h⟩
  rw [show min (max d n) ((levL n st a).length - 1) = min n ((levL n st a).length - 1) by omega] at h1
  exact (lev_at ha n t).mp h1
/-! ### relaxing -/
def relax (fs : List (Option Nat)) (r : Nat × Nat) : List (Option Nat) := match fs.getD r.1 none with
  | none => fs
  | some d => match fs.getD r.2 none with
    | none => fs.set r.2 (some (d + 1))
    | some e => if d + 1 < e then fs.set r.2 (some (d + 1)) else fs
def farN (n : Nat) (rs : List (Nat × Nat)) (a : Nat) : Nat → List (Option Nat)
  | 0 => (List.range n).map fun t => if t = a then some 0 else none
  | k + 1 => rs.foldl relax (farN n rs a k)
theorem relax_len (fs : List (Option Nat)) (r : Nat × Nat) : (relax fs r).length = fs.length := by
  unfold relax
  split
  · rfl
  · split
    · simp
    · split <;> simp
theorem fold_len (rs : List (Nat × Nat)) (fs : List (Option Nat)) : (rs.foldl relax fs).length = fs.length := by
  induction rs generalizing fs with
  | nil => rfl
  | cons r rs ih => rw [List.foldl_cons, ih, relax_len]
theorem far_len (rs : List (Nat × Nat)) (k : Nat) : (farN n rs a k).length = n := by
  induction k with
  | zero => simp [farN]
  | succ k ih => rw [farN, fold_len, ih]
/-- t is known within d -/
def Kn (fs : List (Option Nat)) (t d : Nat) : Prop := ∃ e, e ≤ d ∧ fs.getD t none = some e
theorem getD_set {fs : List (Option Nat)} {i j : Nat} {x : Option Nat} : (fs.set i x).getD j none = if i = j ∧ i < fs.length then x else fs.getD j none := by
  simp only [List.getD_eq_getElem?_getD, List.getElem?_set]
  by_cases h : i = j
  · subst h
    by_cases h2 : i < fs.length
    · simp [h2]
    · simp [h2, List.getElem?_eq_none (Nat.le_of_not_lt h2)]
  · simp [h]
theorem relax_kn {fs : List (Option Nat)} {r : Nat × Nat} {t d : Nat} (h : Kn fs t d) : Kn (relax fs r) t d := by
  obtain ⟨e, he, h⟩ := h
  unfold relax
  split
  · exact ⟨e, he, h⟩
  · rename_i d1 h1
    split
    · rename_i h2
      refine ⟨e, he, ?_⟩
      rw [getD_set, if_neg (fun z => by rw [z.1, h] at h2; cases h2)]
      exact h
    · rename_i e1 h2
      split
      · rename_i hlt
        by_cases z : r.2 = t ∧ r.2 < fs.length
        · refine ⟨d1 + 1, ?_, by rw [getD_set, if_pos z]⟩
          rw [z.1, h] at h2
          cases h2
          omega
        · exact ⟨e, he, by rw [getD_set, if_neg z]; exact h⟩
      · exact ⟨e, he, h⟩
theorem relax_new {fs : List (Option Nat)} {r : Nat × Nat} {d : Nat} (h : Kn fs r.1 d) (hr : r.2 < fs.length) : Kn (relax fs r) r.2 (d + 1) := by
  obtain ⟨e, he, h⟩ := h
  unfold relax
  rw [h]
  show Kn (match fs.getD r.2 none with
    | none => fs.set r.2 (some (e + 1))
    | some e' => if e + 1 < e' then fs.set r.2 (some (e + 1)) else fs) r.2 (d + 1)
  split
  · exact ⟨e + 1, by omega, by rw [getD_set, if_pos ⟨rfl, hr⟩]⟩
  · rename_i e1 h2
    split
    · exact ⟨e + 1, by omega, by rw [getD_set, if_pos ⟨rfl, hr⟩]⟩
    · exact ⟨e1, by omega, h2⟩
theorem fold_kn {rs : List (Nat × Nat)} {fs : List (Option Nat)} {t d : Nat} (h : Kn fs t d) : Kn (rs.foldl relax fs) t d := by
  induction rs generalizing fs with
  | nil => exact h
  | cons r rs ih => exact ih (relax_kn h)
theorem fold_new {rs : List (Nat × Nat)} {fs : List (Option Nat)} {s t d : Nat} (h : Kn fs s d) (hr : (s, t) ∈ rs) (ht : t < fs.length) : Kn (rs.foldl relax fs) t (d + 1) := by
  induction rs generalizing fs with
  | nil => cases hr
  | cons r rs ih =>
    rw [List.foldl_cons]
    rcases List.mem_cons.mp hr with rfl | hr
    · exact fold_kn (relax_new (r := (s, t)) h ht)
    · exact ih (relax_kn h) hr (by rw [relax_len]; exact ht)
/-- what is known is reached so -/
def Snd (n : Nat) (st : Nat → Nat → Bool) (a : Nat) (fs : List (Option Nat)) : Prop := ∀ t d, fs.getD t none = some d → Rch n st a d t
theorem relax_snd {fs : List (Option Nat)} {r : Nat × Nat} (h : Snd n st a fs) (h1 : st r.1 r.2 = true) (h2 : r.2 < n) : Snd n st a (relax fs r) := by
  have key : ∀ d, fs.getD r.1 none = some d → Snd n st a (fs.set r.2 (some (d + 1))) := fun d hd t e he => by
    rw [getD_set] at he
    split at he
    · rename_i z
      cases he
      rw [← z.1]
      exact .s (h _ _ hd) h1 h2
    · exact h t e he
  unfold relax
  split
  · exact h
  · rename_i d hd
    split
    · exact key d hd
    · split
      · exact key d hd
      · exact h
theorem fold_snd {rs : List (Nat × Nat)} (hr : ∀ r ∈ rs, st r.1 r.2 = true ∧ r.2 < n) {fs : List (Option Nat)} (h : Snd n st a fs) : Snd n st a (rs.foldl relax fs) := by
  induction rs generalizing fs with
  | nil => exact h
  | cons r rs ih =>
    have h1 := hr r (by simp)
    exact ih (fun q hq => hr q (List.mem_cons_of_mem _ hq)) (relax_snd h h1.1 h1.2)
theorem far_snd {rs : List (Nat × Nat)} (hr : ∀ r ∈ rs, st r.1 r.2 = true ∧ r.2 < n) (k : Nat) : Snd n st a (farN n rs a k) := by
  induction k with
  | zero =>
    intro t d h
    unfold farN at h
    rw [List.getD_eq_getElem?_getD, List.getElem?_map] at h
    by_cases ht : t < n
    · rw [List.getElem?_range ht] at h
      simp at h
      obtain ⟨rfl, rfl⟩ := h
      exact .z
    · rw [List.getElem?_eq_none (by simpa using ht)] at h
      simp at h
  | succ k ih => exact fold_snd hr ih
theorem far_kn {rs : List (Nat × Nat)} (ha : a < n) (hr : ∀ s t, s < n → st s t = true → t < n → (s, t) ∈ rs) {k d t : Nat} (hd : d ≤ k) (h : Rch n st a d t) : Kn (farN n rs a k) t d := by
  induction k generalizing d t with
  | zero =>
    obtain rfl : d = 0 := by omega
    cases h
    refine ⟨0, Nat.le_refl _, ?_⟩
    unfold farN
    rw [List.getD_eq_getElem?_getD, List.getElem?_map, List.getElem?_range ha]
    simp
  | succ k ih =>
    rw [farN]
    by_cases e : d ≤ k
    · exact fold_kn (ih e h)
    · cases h with
      | z => omega
      | s h1 h2 h3 => exact fold_new (ih (by omega) h1) (hr _ _ (h1.lt ha) h2 h3) (by rw [far_len]; exact h3)
/-- the least number of steps to each thing -/
theorem far_ok {rs : List (Nat × Nat)} (ha : a < n) (h1 : ∀ r ∈ rs, st r.1 r.2 = true ∧ r.2 < n) (h2 : ∀ s t, s < n → st s t = true → t < n → (s, t) ∈ rs) (t m : Nat) :
    (((farN n rs a n).getD t none).isSome = true ↔ ∃ d, Rch n st a d t) ∧ ((∃ e, (farN n rs a n).getD t none = some e ∧ e ≤ m) ↔ ∃ d, d ≤ m ∧ Rch n st a d t) := by
  have snd := far_snd (st := st) (a := a) h1 n
  refine ⟨⟨fun h => ?_, fun ⟨d, h⟩ => ?_⟩, ⟨fun ⟨e, he, hm⟩ => ⟨e, hm, snd t e he⟩, fun ⟨d, hd, h⟩ => ?_⟩⟩
  · obtain ⟨e, he⟩ := Option.isSome_iff_exists.mp h
    exact ⟨e, snd t e he⟩
  · obtain ⟨d', hd', h'⟩ := h.short ha
    obtain ⟨e, _, he⟩ := far_kn ha h2 hd' h'
    rw [he]; rfl
  · by_cases hn : d ≤ n
    · obtain ⟨e, h3, he⟩ := far_kn ha h2 hn h
      exact ⟨e, he, by omega⟩
    · obtain ⟨d', hd', h'⟩ := h.short ha
      obtain ⟨e, h3, he⟩ := far_kn ha h2 hd' h'
      exact ⟨e, he, by omega⟩
end Wy
set_option Elab.async false
set_option linter.all false
set_option maxRecDepth 100000
set_option maxHeartbeats 4000000
/-! k16, plain: links -/
namespace LW
open PySem PySem.Spec PyProof.Rows L2 EV PySem.XO PySem.W LamX Wy
abbrev Prs := List (Nat × Nat)
def prR (p : Nat × Nat) : List Int := [(p.1 : Int), (p.2 : Int)]
def rowsP (ps : Prs) : List (List Int) := ps.map prR
theorem prR_inj {p q : Nat × Nat} (h : prR p = prR q) : p = q := by
  obtain ⟨a, b⟩ := p
  obtain ⟨c, d⟩ := q
  unfold prR at h
  simp only [List.cons.injEq, and_true] at h
  exact Prod.ext (by omega) (by omega)
def linkB (ps : Prs) (u v : Nat) : Bool := decide ((u, v) ∈ ps)
theorem row_P {ps : Prs} {u v : Nat} : decide ([(u : Int), (v : Int)] ∈ rowsP ps) = linkB ps u v := by
  refine decide_eq_decide.mpr ⟨fun h => ?_, fun h => ?_⟩
  · obtain ⟨p, hp, e⟩ := List.mem_map.mp h
    have : p = (u, v) := prR_inj e
    subst this; exact hp
  · exact List.mem_map.mpr ⟨(u, v), h, rfl⟩
theorem rows_is {n : Nat} {ps : Prs} (h : ∀ p ∈ ps, p.1 < n ∧ p.2 < n) : ∀ r ∈ rowsP ps, isRow n 2 r = true := fun r hr => by
  obtain ⟨p, hp, rfl⟩ := List.mem_map.mp hr
  have := h p hp
  simp only [isRow, prR, List.length_cons, List.length_nil, List.all_cons, List.all_nil, Bool.and_eq_true, decide_eq_true_eq, and_true]
  refine ⟨by decide, ⟨by omega, by omega⟩, by omega, by omega⟩
theorem rows_nd {ps : Prs} (h : ps.Nodup) : (rowsP ps).Nodup := nodup_map (fun x y e => prR_inj e) h
theorem rows_prs {n : Nat} {rs : List (List Int)} (h : ∀ r ∈ rs, isRow n 2 r = true) (nd : rs.Nodup) : ∃ ps : Prs, rs = rowsP ps ∧ (∀ p ∈ ps, p.1 < n ∧ p.2 < n) ∧ ps.Nodup := by
  induction rs with
  | nil => exact ⟨[], rfl, by simp, List.nodup_nil⟩
  | cons r rs ih =>
    obtain ⟨ps, rfl, h1, h2⟩ := ih (fun r hr => h r (List.mem_cons_of_mem _ hr)) (List.nodup_cons.mp nd).2
    have hr := h r (by simp)
    simp only [isRow, Bool.and_eq_true, decide_eq_true_eq, List.all_eq_true] at hr
    match r, hr, nd with
    | [a, b], ⟨_, hm⟩, nd =>
      have ha := hm a (by simp)
      have hb := hm b (by simp)
      have e : ([a, b] : List Int) = prR (a.toNat, b.toNat) := by
        unfold prR
        rw [show ((a.toNat : Nat) : Int) = a by omega, show ((b.toNat : Nat) : Int) = b by omega]
      rw [e] at nd ⊢
      refine ⟨(a.toNat, b.toNat) :: ps, rfl, fun p hp => ?_, List.nodup_cons.mpr ⟨fun hp => (List.nodup_cons.mp nd).1 (List.mem_map_of_mem hp), h2⟩⟩
      rcases List.mem_cons.mp hp with rfl | hp
      · exact ⟨by show a.toNat < n; omega, by show b.toNat < n; omega⟩
      · exact h1 p hp
abbrev prD (p : Nat × Nat) : D := .tup [natD p.1, natD p.2]
theorem rows_d (ps : Prs) : (rowsP ps).map rowD = ps.map prD := by
  unfold rowsP
  rw [List.map_map]
  exact List.map_congr_left fun p _ => rfl
theorem perm_map {α : Type} {f : α → D} {ys : List D} {rs : List α} (h : ys.Perm (rs.map f)) : ∃ rs' : List α, ys = rs'.map f ∧ rs'.Perm rs := by
  generalize hz : rs.map f = zs at h
  induction h generalizing rs with
  | nil => cases rs with
    | nil => exact ⟨[], rfl, List.Perm.nil⟩
    | cons _ _ => cases hz
  | cons x _ ih => cases rs with
    | nil => cases hz
    | cons r rs =>
      rw [List.map_cons] at hz
      injection hz with e1 e2
      obtain ⟨rs', rfl, hp⟩ := ih e2
      exact ⟨r :: rs', by rw [List.map_cons, e1], hp.cons _⟩
  | swap x y l => cases rs with
    | nil => cases hz
    | cons r rs => cases rs with
      | nil => cases hz
      | cons r2 rs =>
        rw [List.map_cons, List.map_cons] at hz
        injection hz with e1 e2
        injection e2 with e2 e3
        exact ⟨r2 :: r :: rs, by rw [List.map_cons, List.map_cons, e1, e2, e3], List.Perm.swap _ _ _⟩
  | trans _ _ ih1 ih2 =>
    obtain ⟨r2, rfl, h2⟩ := ih2 hz
    obtain ⟨r1, e1, h1⟩ := ih1 rfl
    exact ⟨r1, e1, h1.trans h2⟩
/-- a line (m = n - 1) or a ring (m = n) in the order os -/
def ringP (os : List Nat) (m : Nat) : Prs := (List.range m).map fun k => (os.getD k 0, os.getD ((k + 1) % os.length) 0)
theorem ring_ok {n m : Nat} {os : List Nat} (hp : os.Perm (List.range n)) (hm : m ≤ n) : (∀ p ∈ ringP os m, p.1 < n ∧ p.2 < n) ∧ (ringP os m).Nodup := by
  have hl : os.length = n := by rw [hp.length_eq, List.length_range]
  have hlt : ∀ k, k < n → os.getD k 0 < n := fun k hk => by
    rw [List.getD_eq_getElem?_getD, List.getElem?_eq_getElem (by omega)]
    exact List.mem_range.mp (hp.mem_iff.mp (List.getElem_mem _))
  have hnd : os.Nodup := hp.nodup_iff.mpr List.nodup_range
  refine ⟨fun p h => ?_, ?_⟩
  · obtain ⟨k, hk, rfl⟩ := List.mem_map.mp h
    have := List.mem_range.mp hk
    exact ⟨hlt k (by omega), hlt _ (by rw [hl]; exact Nat.mod_lt _ (by omega))⟩
  · unfold ringP
    rw [List.Nodup, List.pairwise_map]
    refine List.Pairwise.imp_of_mem (fun {a b} ha hb ne e => ne ?_) List.nodup_range
    have h1 := List.mem_range.mp ha
    have h2 := List.mem_range.mp hb
    have e1 := congrArg Prod.fst e
    simp only [List.getD_eq_getElem?_getD, List.getElem?_eq_getElem (show a < os.length by omega), List.getElem?_eq_getElem (show b < os.length by omega), Option.getD_some] at e1
    have hpw := List.pairwise_iff_getElem.mp hnd
    rcases Nat.lt_trichotomy a b with l | l | l
    · exact absurd e1 (hpw a b (by omega) (by omega) l)
    · exact l
    · exact absurd e1.symm (hpw b a (by omega) (by omega) l)
def optD : Option Nat → D
  | none => .non
  | some d => natD d
/-! what the sayings mean -/
abbrev tL (w0 : Str) (ps : Prs) : Tb := [(w0, 2, rowsP ps)]
theorem row_L {w0 : Str} {ps : Prs} {u v : Nat} : rowT (tL w0 ps) w0 [(u : Int), (v : Int)] = linkB ps u v := by
  rw [rowT_in (t := tL w0 ps) (x := w0) (rs := rowsP ps) (by simp [nmsT]) (p := 2) (by simp)]
  exact row_P
theorem gd_L {n : Nat} {w0 : Str} {ps : Prs} (h1 : 1 ≤ n) (h8 : n ≤ 8) (hw : isNm (.str w0) = true) (h : ∀ p ∈ ps, p.1 < n ∧ p.2 < n) (nd : ps.Nodup) (hl : ps.length ≤ 64) : Gd n (tL w0 ps) :=
  ⟨h1, h8, by simp, by simp [nmsT], fun z hz => by
    have e : z = (w0, 2, rowsP ps) := by simpa using hz
    subst e
    exact ⟨hw, by show (1:Nat) ≤ 2; decide, Nat.le_refl _, rows_is h, rows_nd nd, .inr ⟨rfl, by show (rowsP ps).length ≤ 64; unfold rowsP; rw [List.length_map]; exact hl⟩⟩⟩
theorem fit_W {w0 x y a b c d : Str} {ps : Prs} : FitT (tL w0 ps) (.way x y (.link w0 a b) c d) := fun q hq => by
  have e : q = (w0, 2) := by simpa [Say.tabs] using hq
  subst e; exact ⟨rowsP ps, by simp⟩
theorem fit_N {w0 x y a b c d : Str} {m : Nat} {ps : Prs} : FitT (tL w0 ps) (.within m x y (.link w0 a b) c d) := fun q hq => by
  have e : q = (w0, 2) := by simpa [Say.tabs] using hq
  subst e; exact ⟨rowsP ps, by simp⟩
variable {n : Nat} {w0 a b x y : Str} {ps : Prs} {i j : Nat}
theorem get_a : getE [(a, i), (b, j)] a = i := by simp [getE]
theorem get_b (h : a ≠ b) : getE [(a, i), (b, j)] b = j := by simp [getE, h]
theorem upd_x {f : Str → Nat} {u v : Nat} (h : x ≠ y) : updE (updE f x u) y v x = u := by simp [updE, h]
theorem upd_y {f : Str → Nat} {u v : Nat} : updE (updE f x u) y v y = v := by simp [updE]
theorem step_L (h : x ≠ y) {f : Str → Nat} : (fun u v => sem n (rowT (tL w0 ps)) (.link w0 x y) (updE (updE f x u) y v)) = linkB ps := by
  funext u v
  show rowT (tL w0 ps) w0 [(updE (updE f x u) y v x : Int), (updE (updE f x u) y v y : Int)] = _
  rw [upd_x h, upd_y, row_L]
theorem step_T (h : x ≠ y) {f : Str → Nat} : (fun u v => sem n (rowT (tL w0 ps)) (.link w0 y x) (updE (updE f x u) y v)) = fun u v => linkB ps v u := by
  funext u v
  show rowT (tL w0 ps) w0 [(updE (updE f x u) y v y : Int), (updE (updE f x u) y v x : Int)] = _
  rw [upd_x h, upd_y, row_L]
def farO (n : Nat) (ps : Prs) (i j : Nat) : Option Nat := (farN n ps i n).getD j none
theorem far_P (hps : ∀ p ∈ ps, p.1 < n ∧ p.2 < n) (hi : i < n) (j m : Nat) : ((farO n ps i j).isSome = true ↔ ∃ d, Rch n (linkB ps) i d j) ∧ ((∃ e, farO n ps i j = some e ∧ e ≤ m) ↔ ∃ d, d ≤ m ∧ Rch n (linkB ps) i d j) :=
  far_ok hi (fun r hr => ⟨decide_eq_true hr, (hps r hr).2⟩) (fun s t _ h _ => of_decide_eq_true h) j m
theorem sem_W (hab : a ≠ b) (hxy : x ≠ y) (hps : ∀ p ∈ ps, p.1 < n ∧ p.2 < n) (hi : i < n) : sem n (rowT (tL w0 ps)) (.way x y (.link w0 x y) a b) (getE [(a, i), (b, j)]) = (farO n ps i j).isSome := by
  show decide (getE [(a, i), (b, j)] b ∈ ((levL n (fun u v => sem n (rowT (tL w0 ps)) (.link w0 x y) (updE (updE (getE [(a, i), (b, j)]) x u) y v)) (getE [(a, i), (b, j)] a)).getLast?).getD []) = _
  rw [step_L hxy, get_a, get_b hab, Bool.eq_iff_iff, decide_eq_true_eq, lev_last hi, (far_P hps hi j 0).1]
theorem sem_T (hab : a ≠ b) (hxy : x ≠ y) (hps : ∀ p ∈ ps, p.1 < n ∧ p.2 < n) (hi : i < n) (hj : j < n) : sem n (rowT (tL w0 ps)) (.way x y (.link w0 y x) b a) (getE [(a, i), (b, j)]) = (farO n ps i j).isSome := by
  show decide (getE [(a, i), (b, j)] a ∈ ((levL n (fun u v => sem n (rowT (tL w0 ps)) (.link w0 y x) (updE (updE (getE [(a, i), (b, j)]) x u) y v)) (getE [(a, i), (b, j)] b)).getLast?).getD []) = _
  rw [step_T hxy, get_a, get_b hab, Bool.eq_iff_iff, decide_eq_true_eq, lev_last hj, (far_P hps hi j 0).1]
  exact ⟨fun ⟨d, h⟩ => ⟨d, h.rev (st' := linkB ps) (fun _ _ => rfl) hj⟩, fun ⟨d, h⟩ => ⟨d, h.rev (st' := fun u v => linkB ps v u) (fun _ _ => rfl) hi⟩⟩
theorem sem_N (hab : a ≠ b) (hxy : x ≠ y) (hps : ∀ p ∈ ps, p.1 < n ∧ p.2 < n) (hi : i < n) {m : Nat} : sem n (rowT (tL w0 ps)) (.within m x y (.link w0 x y) a b) (getE [(a, i), (b, j)]) = (match farO n ps i j with
    | none => false
    | some d => decide (d ≤ m)) := by
  show decide (getE [(a, i), (b, j)] b ∈ ((levL n (fun u v => sem n (rowT (tL w0 ps)) (.link w0 x y) (updE (updE (getE [(a, i), (b, j)]) x u) y v)) (getE [(a, i), (b, j)] a)).getD (min m ((levL n (fun u v => sem n (rowT (tL w0 ps)) (.link w0 x y) (updE (updE (getE [(a, i), (b, j)]) x u) y v)) (getE [(a, i), (b, j)] a)).length - 1)) [])) = _
  rw [step_L hxy, get_a, get_b hab, Bool.eq_iff_iff, decide_eq_true_eq, lev_at hi, ← (far_P hps hi j m).2]
  cases farO n ps i j with
  | none => simp
  | some d => simp
theorem sem_A (hxy : x ≠ y) (hi : i < n) : sem n (rowT (tL w0 ps)) (.way x y (.link w0 x y) a a) (getE [(a, i)]) = true := by
  show decide (getE [(a, i)] a ∈ ((levL n (fun u v => sem n (rowT (tL w0 ps)) (.link w0 x y) (updE (updE (getE [(a, i)]) x u) y v)) (getE [(a, i)] a)).getLast?).getD []) = _
  have e : getE [(a, i)] a = i := by simp [getE]
  rw [step_L hxy, e, decide_eq_true_eq, lev_last hi]
  exact ⟨0, .z⟩
theorem good_W {ns : List Str} {u v c d : Str} (h : x ≠ y) (hx : x ∉ ns) (hy : y ∉ ns) (hl : ns.length ≤ 3) (hc : c ∈ ns) (hd : d ∈ ns) (hu : u = x ∨ u = y) (hv : v = x ∨ v = y) : Say.good ns (.way x y (.link w0 u v) c d) = true := by
  rcases hu with rfl | rfl <;> rcases hv with rfl | rfl <;> simp [Say.good, Say.deep, Say.ok, Say.forms, Say.tabs, Say.agreeB, h, hx, hy, hc, hd] <;> omega
theorem good_N {ns : List Str} {u v c d : Str} {m : Nat} (hm : m ≤ 8) (h : x ≠ y) (hx : x ∉ ns) (hy : y ∉ ns) (hl : ns.length ≤ 3) (hc : c ∈ ns) (hd : d ∈ ns) (hu : u = x ∨ u = y) (hv : v = x ∨ v = y) : Say.good ns (.within m x y (.link w0 u v) c d) = true := by
  rcases hu with rfl | rfl <;> rcases hv with rfl | rfl <;> simp [Say.good, Say.deep, Say.ok, Say.forms, Say.tabs, Say.agreeB, h, hx, hy, hc, hd, hm] <;> omega
end LW
set_option Elab.async false
set_option linter.all false
set_option maxRecDepth 100000
set_option maxHeartbeats 8000000
set_option pp.maxSteps 1500
namespace LW
open PySem PySem.Spec PyProof.Rows L2 EV PySem.XO PySem.W LamX Wy
abbrev s_far : Stmt := topS 75
abbrev N_far : List Str := ["_law_size", "_law_rows", "_law_begin", "_law_far_here", "_law_k", "_law_s", "_law_t"]
theorem sc_far : FnScope N_far ["_law_size", "_law_rows", "_law_begin"] (defScope s_far) := ⟨rfl, rfl, rfl, by decide +kernel, rfl, by decide +kernel, by decide +kernel⟩
abbrev s_links : Stmt := topS 76
abbrev N_links : List Str := ["_law_box_here", "_law_size", "_law_order", "_law_way", "_law_line", "_law_k"]
theorem sc_links : FnScope N_links ["_law_box_here", "_law_size"] (defScope s_links) := ⟨rfl, rfl, rfl, by decide +kernel, rfl, by decide +kernel, by decide +kernel⟩
local macro_rules | `(tactic| walk_at "fd") => `(tactic| first | assumption | rfl)
local macro_rules | `(tactic| walk_at "ow") => `(tactic| first | assumption | exact oset_self | (rw [oset_ne (by assumption)]; walk_at "ow") | (rw [oset_ne (Ne.symm (by assumption))]; walk_at "ow"))
local macro_rules | `(tactic| walk_at "ix") => `(tactic| first | exact EV.ga0 | exact EV.ga1 | exact EV.ga2 | exact EV.ga3 | exact EV.ga4 | exact EV.ga5 | exact EV.ga6 | exact EV.ga7 | exact EV.ga8 | exact EV.ga9 | exact EV.ga10 | exact EV.ga11 | exact EV.ga12 | exact EV.ga13 | exact EV.ga14 | exact EV.ga15 | assumption | rfl)
local macro_rules | `(tactic| walk_at "sz") => `(tactic| first | exact trivial | (with_reducible assumption) | omega | ((with_reducible refine szR ?_); exact rfl) | ((with_reducible refine szk' ?_); omega) | ((with_reducible refine szl ?_); omega) | exact szlt rfl | rfl | exact ⟨rfl, by assumption⟩ | exact ⟨rfl, rfl⟩ | exact ⟨_, rfl⟩ | ((with_reducible refine szk' ?_); simp only [List.length_cons, List.length_nil, List.length_append, List.length_map]; omega) | (unfold CMul; omega) | (unfold CDiv; omega) | (unfold CPow; exact ⟨by omega, by omega, by omega⟩) | (constructor; · omega; · omega))
local macro_rules | `(tactic| walk_at "val") => `(tactic| first | assumption | exact rfl)
local macro_rules | `(tactic| walk_at "ty") => `(tactic| first | assumption | exact rfl)
local macro_rules | `(tactic| walk_at "bt") => `(tactic| first | exact rfl | assumption)
local macro_rules | `(tactic| walk_at "n") => `(tactic| refine st_norm (by simp only [List.set_cons_succ, List.set_cons_zero]; rfl) ?_)
local macro_rules | `(tactic| walk_at "wh") => `(tactic| with_reducible conv => whnf)
local macro_rules | `(tactic| walk_at "call") => `(tactic| fail)
local macro_rules | `(tactic| walk_at "go1") => `(tactic| first
  | ((with_reducible apply go_var); (· exact rfl))
  | ((with_reducible apply go_varF); (· exact rfl); (· walk_at "ow"))
  | ((with_reducible apply go_set); (· (simp only [wipeD, List.map_cons, List.map_nil, List.set_cons_succ, List.set_cons_zero]; rfl)))
  | ((with_reducible apply go_fld); (· walk_at "fd"))
  | ((with_reducible apply go_fldH); (· walk_at "ow"); (· walk_at "fd"))
  | ((with_reducible apply go_ixT); (· walk_at "ix"))
  | ((with_reducible apply go_ixL); (· walk_at "ix"))
  | ((with_reducible apply go_ixH); (· walk_at "ow"); (· walk_at "ix"))
  | ((with_reducible apply go_bcT); (· walk_at "bt"))
  | ((with_reducible apply go_bcF); (· walk_at "bt"))
  | ((with_reducible apply go_methH); (· walk_at "ow"); (· walk_at "fd"))
  | ((with_reducible apply And.intro); (· walk_at "sz"))
  | ((with_reducible apply go_lm); (· walk_at "ow"))
  | ((with_reducible apply go_lm2); (· walk_at "ow"))
  | ((with_reducible apply go_app); (· walk_at "sz"))
  | ((with_reducible apply go_ext); (· walk_at "sz"))
  | ((with_reducible apply go_setF); (· walk_at "ow"))
  | ((with_reducible apply go_frz); (· walk_at "ow"))
  | ((with_reducible apply go_atK); (· walk_at "val"))
  | ((with_reducible apply go_atS); (· walk_at "val"))
  | ((with_reducible apply go_atI); (· walk_at "val"))
  | ((with_reducible apply go_atHK); (· walk_at "ow"); (· walk_at "val"))
  | ((with_reducible apply go_atHS); (· walk_at "ow"); (· walk_at "val"))
  | ((with_reducible apply go_dputS); (· walk_at "ow"); (· walk_at "sz"))
  | ((with_reducible apply go_dputK); (· walk_at "ow"); (· walk_at "sz"))
  | (with_reducible apply go_eqI)
  | (with_reducible apply go_eqS)
  | (with_reducible apply go_eqB)
  | (with_reducible apply go_neg)
  | (with_reducible apply go_lenL)
  | (with_reducible apply go_lenT)
  | ((with_reducible apply go_lenS); (· walk_at "sz"))
  | ((with_reducible apply go_lenH); (· walk_at "ow"))
  | (with_reducible apply go_tupL)
  | (with_reducible apply go_tupT)
  | ((with_reducible apply go_tupH); (· walk_at "ow"))
  | (with_reducible apply go_listL)
  | (with_reducible apply go_listT)
  | ((with_reducible apply go_listH); (· walk_at "ow"))
  | (with_reducible apply go_all)
  | (with_reducible apply go_any)
  | ((with_reducible apply go_isi); (· exact rfl); (· walk_at "ty"); (· walk_at "val"))
  | ((with_reducible apply go_inS); (· exact rfl))
  | ((with_reducible apply go_inSL); (· exact rfl))
  | ((with_reducible apply go_sortS); (· walk_at "sz"))
  | (with_reducible apply go_own)
  | (with_reducible apply go_pnil)
  | (with_reducible apply go_pcons)
  | ((with_reducible apply go_lcNil); (· exact trivial))
  | (with_reducible apply go_lcCons)
  | (with_reducible apply go_min2)
  | walk_at "call")
local macro_rules | `(tactic| walk_at "go") => `(tactic| (walk_at "wh"; repeat (walk_at "go1"; walk_at "wh")))
section
variable {P : Program} {w : World} {K : PySem.W.Frag} {mg : Str → Option Value} {base : Heap}
def farS : DSp := fun ds O Q _ => ∃ (n : Nat) (ps : Prs) (a : Nat), ds = [.int n, .lst (ps.map prD), natD a] ∧ n ≤ 8 ∧ (∀ p ∈ ps, p.1 < n ∧ p.2 < n) ∧ Q (.lst ((farN n ps a n).map optD)) O
def linksS : DSp := fun ds O Q _ => ∃ (n : Nat), ds = [.int n] ∧ 1 ≤ n ∧ n ≤ 8 ∧ ∀ ps : Prs, (∀ p ∈ ps, p.1 < n ∧ p.2 < n) → ps.Nodup → ps.length ≤ 64 → Q (.lst (ps.map prD)) O
theorem far_at {fs : List (Option Nat)} {s : Nat} (h : s < fs.length) : atI (fs.map optD) (s : Int) = some (optD (fs.getD s none)) := by
  refine atI_nat ?_
  rw [List.getElem?_map, List.getElem?_eq_getElem h, List.getD_eq_getElem?_getD, List.getElem?_eq_getElem h]; rfl
theorem ok_far {f : Addr} {fd : FuncData} (F : Fun K "_law_far" "_law_far" s_far f fd) (m_range : mg "range" = none) : FnOk P w K mg base CX0 1 f fd ["_law_size", "_law_rows", "_law_begin"] (spD K farS) := by
  refine fn_pure F sc_far (fun ds O Q E h => ?_) (fun cdv A outer s H E hr =>
    (d_scons (d_setLcO (i := 3) rfl sc_far.nd rfl rfl (sw_true rfl rfl rfl (by decide +kernel)) (d_rng1 rfl m_range (d_cons (d_var (i := 0) rfl (.inl rfl) (by decide) (by decide)) d_nil rfl) rfl) (blkOk_by (own := [("_law_t", 6)]) (N := N_far) (sc := defScope s_far) (by decide +kernel)) (fun _ _ _ _ _ => (dg_name (i := 6) sc_far.nd rfl (.inl rfl) (.inr rfl))) (fun _ _ _ _ _ => d_ifs0) (fun _ _ _ _ _ => (d_if (d_tcmp (od_eq hr.units) (d_var (i := 6) rfl (.inl rfl) (by decide) (by decide)) (d_var (i := 2) rfl (.inr (.inl rfl)) (by decide) (by decide)) (nomark _)) d_int d_non)) (by decide +kernel) (fun _ => rfl))
      (d_scons (d_for PassesOwn.never rfl (d_rng1 rfl m_range (d_cons (d_var (i := 0) rfl (.inl rfl) (by decide) (by decide)) d_nil rfl) rfl) (dg_name (i := 4) sc_far.nd rfl (.inl rfl) (.inl rfl)) (d_sone (d_for PassesOwn.never rfl (d_iter (d_var (i := 1) rfl (.inl rfl) (by decide) (by decide))) (dg_tup (n := 2) rfl (dgs_cons (dg_name (i := 5) sc_far.nd rfl (.inl rfl) (.inl rfl)) (dgs_cons (dg_name (i := 6) sc_far.nd rfl (.inl rfl) (.inl rfl)) dgs_nil rfl) rfl) rfl rfl) (d_sone (d_ifS (DPW.pt (d_wand (d_tcmp od_isnot (d_ix (d_var (i := 3) rfl (.inl rfl) (by decide) (by decide)) (d_var (i := 5) rfl (.inl rfl) (by decide) (by decide)) (fun _ _ => rfl)) d_non (nomark _)) (d_and1 (DPW.pt (d_wor (d_tcmp od_is (d_ix (d_var (i := 3) rfl (.inl rfl) (by decide) (by decide)) (d_var (i := 6) rfl (.inl rfl) (by decide) (by decide)) (fun _ _ => rfl)) d_non (nomark _)) (d_or1 (d_tcmp od_gt (d_ix (d_var (i := 3) rfl (.inl rfl) (by decide) (by decide)) (d_var (i := 6) rfl (.inl rfl) (by decide) (by decide)) (fun _ _ => rfl)) (d_op od_add (d_ix (d_var (i := 3) rfl (.inl rfl) (by decide) (by decide)) (d_var (i := 5) rfl (.inl rfl) (by decide) (by decide)) (fun _ _ => rfl)) d_int) (nomark _)))))))) (d_sone (d_lput (d_var (i := 3) rfl (.inl rfl) (by decide) (by decide)) (d_var (i := 6) rfl (.inl rfl) (by decide) (by decide)) (d_op od_add (d_ix (d_var (i := 3) rfl (.inl rfl) (by decide) (by decide)) (d_var (i := 5) rfl (.inl rfl) (by decide) (by decide)) (fun _ _ => rfl)) d_int) (by intro _; rfl) rfl rfl)) d_snil)) (fun _ => rfl))) (fun _ => rfl))
      (d_sone (d_ret (d_varF (i := 3) rfl (.inl rfl) (by decide) (by decide))))))) (fun ds O Q E h => ?_) (fun ds O Q E h => h)
  · obtain ⟨n, ps, a, rfl, _⟩ := h; rfl
  · obtain ⟨n, ps, a, rfl, hn8, hps, q⟩ := h
    rw [show startD N_far [.int n, .lst (ps.map prD), natD a] = [.sh (.int n), .sh (.lst (ps.map prD)), .sh (natD a), .un, .un, .un, .un] from rfl]
    refine go_st fun N hN => ?_
    walk_at "go"
    refine go_lc (fun d => match d with
      | .int i => optD (if i = (a : Int) then some 0 else none)
      | _ => .non) (fun d hd Qy hq => ?_) (by simp only [rngD, List.length_map, List.length_range, List.length_nil]; exact szk (by omega)) ?_
    · rw [show (tt1, rngD 0 ((n : Int).toNat)).snd = (List.range n).map natD from by rw [← rng_nats]; rfl] at hd
      obtain ⟨i, hi, rfl⟩ := List.mem_map.mp hd
      walk_at "go"
      have hq : Qy (optD (if (i : Int) = (a : Int) then some 0 else none)) O := hq
      by_cases e : (i : Int) = (a : Int)
      · rw [if_pos e] at hq
        have e2 : decide ((i : Int) = (a : Int)) = true := decide_eq_true e
        walk_at "go"
        exact hq
      · rw [if_neg e] at hq
        have e2 : decide ((i : Int) = (a : Int)) = false := decide_eq_false e
        walk_at "go"
        exact hq
    intro p np
    have e0 : ([] ++ (rngD 0 ((n : Int).toNat)).map (fun d => match d with
      | .int i => optD (if i = (a : Int) then some 0 else none)
      | _ => .non)) = (farN n ps a 0).map optD := by
      rw [List.nil_append, Int.toNat_natCast, rng_nats, List.map_map, farN, List.map_map]
      refine List.map_congr_left fun i _ => ?_
      show optD (if (i : Int) = (a : Int) then some 0 else none) = optD (if i = a then some 0 else none)
      by_cases e : i = a
      · rw [if_pos e, if_pos (by omega)]
      · rw [if_neg e, if_neg (by omega)]
    rw [show (tt1, rngD 0 ((n : Int).toNat)).snd = rngD 0 ((n : Int).toNat) from rfl, e0]
    walk_at "go"
    subst hN
    refine go_st fun N hN => ?_
    walk_at "go"
    refine go_for (rngD 0 ((n : Int).toNat)) (fun k ρ O' => ∃ s4 s5 s6 : Sl, O' = oset O p (.lst ((farN n ps a k).map optD)) ∧ ρ = [.sh (.int n), .sh (.lst (ps.map prD)), .sh (natD a), .sh (.opq (.ref p)), s4, s5, s6]) ⟨_, _, _, rfl, rfl⟩ ?_ ?_
    · rintro k d hd ρ O' ⟨s4, s5, s6, rfl, rfl⟩ N2 hN2
      obtain ⟨hk, rfl⟩ := rng_get hd
      refine go_set (ρ' := [.sh (.int n), .sh (.lst (ps.map prD)), .sh (natD a), .sh (.opq (.ref p)), .sh (.int k), s5, s6]) rfl ?_
      walk_at "go"
      refine go_for (ps.map prD) (fun j ρ O' => ∃ s5 s6 : Sl, O' = oset O p (.lst (((ps.take j).foldl relax (farN n ps a k)).map optD)) ∧ ρ = [.sh (.int n), .sh (.lst (ps.map prD)), .sh (natD a), .sh (.opq (.ref p)), .sh (.int k), s5, s6]) ⟨_, _, rfl, rfl⟩ ?_ ?_
      · rintro j d hd ρ O' ⟨s5, s6, rfl, rfl⟩ N3 hN3
        rw [List.getElem?_map] at hd
        obtain ⟨⟨s, t⟩, hp, rfl⟩ := Option.map_eq_some_iff.mp hd
        have hst := hps _ (List.mem_of_getElem? hp)
        have hl : ((ps.take j).foldl relax (farN n ps a k)).length = n := by rw [fold_len, far_len]
        have et : (ps.take (j + 1)).foldl relax (farN n ps a k) = relax ((ps.take j).foldl relax (farN n ps a k)) (s, t) := by
          rw [List.take_succ, hp, List.foldl_append]; rfl
        generalize (ps.take j).foldl relax (farN n ps a k) = fs at hl et
        have hs : s < n := hst.1
        have ht : t < n := hst.2
        have as := far_at (fs := fs) (s := s) (by omega)
        have at_ := far_at (fs := fs) (s := t) (by omega)
        have fin : ∀ gs, gs = relax fs (s, t) → N3 [.sh (.int n), .sh (.lst (ps.map prD)), .sh (natD a), .sh (.opq (.ref p)), .sh (.int k), .sh (natD s), .sh (natD t)] (oset O p (.lst (gs.map optD))) := fun gs e => hN3 _ _ ⟨_, _, by rw [et, e], rfl⟩
        refine ⟨rfl, ?_⟩
        cases es : fs.getD s none with
        | none =>
          rw [es] at as
          replace as : atI (fs.map optD) (s : Int) = some .non := as
          walk_at "go"
          exact fin fs (by unfold relax; rw [es])
        | some d =>
          rw [es] at as
          replace as : atI (fs.map optD) (s : Int) = some (natD d) := as
          have rx : relax fs (s, t) = match fs.getD t none with
            | none => fs.set t (some (d + 1))
            | some e => if d + 1 < e then fs.set t (some (d + 1)) else fs := by unfold relax; rw [es] <;> rfl
          have put : (fs.map optD).set t (.int ((d : Int) + 1)) = (fs.set t (some (d + 1))).map optD := by rw [List.map_set]; rfl
          cases ez : fs.getD t none with
          | none =>
            rw [ez] at at_ rx
            replace at_ : atI (fs.map optD) (t : Int) = some .non := at_
            walk_at "go"
            refine go_lput oset_self (by rw [List.length_map]; omega) ?_
            rw [oset_oset, put]
            exact fin _ rx.symm
          | some e =>
            rw [ez] at at_ rx
            replace at_ : atI (fs.map optD) (t : Int) = some (natD e) := at_
            replace rx : relax fs (s, t) = if d + 1 < e then fs.set t (some (d + 1)) else fs := rx
            by_cases hde : d + 1 < e
            · rw [if_pos hde] at rx
              have e2 : decide ((d : Int) + 1 < (e : Int)) = true := decide_eq_true (by omega)
              walk_at "go"
              refine go_lput oset_self (by rw [List.length_map]; omega) ?_
              rw [oset_oset, put]
              exact fin _ rx.symm
            · rw [if_neg hde] at rx
              have e2 : decide ((d : Int) + 1 < (e : Int)) = false := decide_eq_false (by omega)
              walk_at "go"
              exact fin _ rx.symm
      · rintro ρ O' ⟨s5, s6, rfl, rfl⟩
        refine hN2 _ _ ⟨_, _, _, ?_, rfl⟩
        rw [List.length_map, List.take_length]; rfl
    · rintro ρ O' ⟨s4, s5, s6, rfl, rfl⟩
      subst hN
      dsimp only
      walk_at "go"
      rw [show (rngD 0 ((n : Int).toNat)).length = n by simp [rngD]]
      rw [odel_oset np]
      exact q
theorem call_pull {n : Int} {O : Ow} {Q : QD} {E : QX} (h0 : 0 < n) (h1 : n < 1073741824) (h : ∀ k, 0 ≤ k → k < n → Q (.int k) O) : spM pullS [.int n] O Q E := spM.of ⟨n, rfl, h0, h1, h⟩
theorem call_mixed {α : Type} {f : α → D} {xs : List α} {O : Ow} {Q : QD} {E : QX} (hl : xs.length ≤ 1000) (h : ∀ ys : List α, ys.Perm xs → Q (.lst (ys.map f)) O) : spM mixS [.lst (xs.map f)] O Q E := spM.of ⟨xs.map f, rfl, by rw [List.length_map]; exact hl, fun ys hy => by
  obtain ⟨zs, rfl, hz⟩ := perm_map hy
  exact h zs hz⟩
theorem call_every {n p : Nat} {O : Ow} {Q : QD} {E : QX} (h1 : 1 ≤ n) (h8 : n ≤ 8) (hp : p < 2) (q : Q (.lst ((everyL n p).map rowD)) O) : spM evS [.int n, .int (p + 1 : Nat)] O Q E := spM.of ⟨n, p, rfl, h1, h8, hp, q⟩
theorem cut_take {α : Type} {f : α → D} {xs : List α} {k : Int} (h : 0 ≤ k) : cutD (xs.map f) none (some k) = (xs.take k.toNat).map f := by
  have e1 : k = ((k.toNat : Nat) : Int) := (Int.toNat_of_nonneg h).symm
  generalize k.toNat = j at e1 ⊢
  subst e1
  unfold EV.cutD
  rw [HT.sIx_none, HT.sIx_nat, List.drop_zero, Nat.sub_zero, ← List.map_take]
  congr 1
  rw [List.length_map, List.take_eq_take_iff]
  omega
theorem nat_at {os : List Nat} {k : Nat} (h : k < os.length) : atI (os.map natD) (k : Int) = some (natD (os.getD k 0)) := by
  refine atI_nat ?_
  rw [List.getElem?_map, List.getElem?_eq_getElem h, List.getD_eq_getElem?_getD, List.getElem?_eq_getElem h]; rfl
theorem ok_links {f fP fM fE : Addr} {fd fdP fdM fdE : FuncData} (F : Fun K "_law_links" "_law_links" s_links f fd) (G_pull : FnOk P w K mg base CX0 1 fP fdP ["_law_box_here", "_law_many"] (spB K pullS)) (T_pull : Gf K mg "_law_pull" fP fdP ["_law_box_here", "_law_many"])
    (G_mixed : FnOk P w K mg base CX0 2 fM fdM ["_law_box_here", "_law_some"] (spB K mixS)) (T_mixed : Gf K mg "_law_mixed" fM fdM ["_law_box_here", "_law_some"])
    (G_every : FnOk P w K mg base CX0 1 fE fdE ["_law_size", "_law_places"] (spD K evS)) (T_every : Gf K mg "_law_every" fE fdE ["_law_size", "_law_places"])
    (m_list : mg "list" = none) (m_range : mg "range" = none) : FnOk P w K mg base CX0 3 f fd ["_law_box_here", "_law_size"] (spB K linksS) := by
  refine fn_box F sc_links (fun ds O Q E h => ?_) (fun cdv A outer s H E b l T hr =>
    (d_scons (d_set (i := 2) sc_links.nd rfl (.inr rfl) (d_callX G_mixed rfl (hr.mono (by decide)) rfl T_mixed.m T_mixed.k T_mixed.b (fun _ => pass0A) (d_cons (d_var (i := 0) rfl (.inl rfl) (by decide) (by decide)) (d_cons (d_listRg rfl rfl m_list rfl m_range (d_var (i := 1) rfl (.inl rfl) (by decide) (by decide)) rfl rfl) d_nil rfl) rfl) (by decide) rfl rfl) rfl (.inl rfl))
      (d_scons (d_set (i := 3) sc_links.nd rfl (.inl rfl) (d_callX G_pull rfl (hr.mono (by decide)) rfl T_pull.m T_pull.k T_pull.b (fun _ => pass0A) (d_cons (d_var (i := 0) rfl (.inl rfl) (by decide) (by decide)) (d_cons d_int d_nil rfl) rfl) (by decide) rfl rfl) rfl (.inl rfl))
      (d_scons (d_setLc (i := 4) rfl sc_links.nd rfl rfl (sw_true rfl rfl rfl (by decide +kernel)) (d_rng1 rfl m_range (d_cons (d_op od_sub (d_var (i := 1) rfl (.inl rfl) (by decide) (by decide)) d_int) d_nil rfl) rfl) (blkOk_by (own := [("_law_k", 5)]) (N := N_links) (sc := defScope s_links) (by decide +kernel)) (fun _ _ _ _ _ => (dg_name (i := 5) sc_links.nd rfl (.inl rfl) (.inr rfl))) (fun _ _ _ _ _ => d_ifs0) (fun _ _ _ _ _ => (d_tup (d_cons (d_ix (d_var (i := 2) rfl (.inr (.inl rfl)) (by decide) (by decide)) (d_var (i := 5) rfl (.inl rfl) (by decide) (by decide)) (fun _ _ => rfl)) (d_cons (d_ix (d_var (i := 2) rfl (.inr (.inl rfl)) (by decide) (by decide)) (d_op od_add (d_var (i := 5) rfl (.inl rfl) (by decide) (by decide)) d_int) (fun _ _ => rfl)) d_nil rfl) rfl))) (by decide +kernel) (fun _ => rfl))
      (d_scons (d_ifS (d_tcmp (od_eq hr.units) (d_var (i := 3) rfl (.inl rfl) (by decide) (by decide)) d_int (nomark _)) (d_sone (d_ret (d_callX G_mixed rfl (hr.mono (by decide)) rfl T_mixed.m T_mixed.k T_mixed.b (fun _ => pass0A) (d_cons (d_var (i := 0) rfl (.inl rfl) (by decide) (by decide)) (d_cons (d_var (i := 4) rfl (.inl rfl) (by decide) (by decide)) d_nil rfl) rfl) (by decide) rfl rfl))) d_snil)
      (d_scons (d_ifS (d_tcmp (od_eq hr.units) (d_var (i := 3) rfl (.inl rfl) (by decide) (by decide)) d_int (nomark _)) (d_sone (d_ret (d_callX G_mixed rfl (hr.mono (by decide)) rfl T_mixed.m T_mixed.k T_mixed.b (fun _ => pass0A) (d_cons (d_var (i := 0) rfl (.inl rfl) (by decide) (by decide)) (d_cons (d_op od_add (d_var (i := 4) rfl (.inl rfl) (by decide) (by decide)) (d_if (d_tcmp od_gt (d_var (i := 1) rfl (.inl rfl) (by decide) (by decide)) d_int (nomark _)) (d_lst (d_cons (d_tup (d_cons (d_ix (d_var (i := 2) rfl (.inr (.inl rfl)) (by decide) (by decide)) (d_op od_sub (d_var (i := 1) rfl (.inl rfl) (by decide) (by decide)) d_int) (fun _ _ => rfl)) (d_cons (d_ix (d_var (i := 2) rfl (.inr (.inl rfl)) (by decide) (by decide)) d_int (fun _ _ => rfl)) d_nil rfl) rfl)) d_nil rfl)) (d_lst d_nil))) d_nil rfl) rfl) (by decide) rfl rfl))) d_snil)
      (d_scons (d_ifS (d_tcmp (od_eq hr.units) (d_var (i := 3) rfl (.inl rfl) (by decide) (by decide)) d_int (nomark _)) (d_sone (d_ret (d_callX G_mixed rfl (hr.mono (by decide)) rfl T_mixed.m T_mixed.k T_mixed.b (fun _ => pass0A) (d_cons (d_var (i := 0) rfl (.inl rfl) (by decide) (by decide)) (d_cons (d_call G_every (hr.mono (by decide)) rfl T_every.m T_every.k T_every.b (fun _ => pass0A) (d_cons (d_var (i := 1) rfl (.inl rfl) (by decide) (by decide)) (d_cons d_int d_nil rfl) rfl) (by decide) rfl rfl) d_nil rfl) rfl) (by decide) rfl rfl))) d_snil)
      (d_sone (d_ret (d_sl (d_callX G_mixed rfl (hr.mono (by decide)) rfl T_mixed.m T_mixed.k T_mixed.b (fun _ => pass0A) (d_cons (d_var (i := 0) rfl (.inl rfl) (by decide) (by decide)) (d_cons (d_call G_every (hr.mono (by decide)) rfl T_every.m T_every.k T_every.b (fun _ => pass0A) (d_cons (d_var (i := 1) rfl (.inl rfl) (by decide) (by decide)) (d_cons d_int d_nil rfl) rfl) (by decide) rfl rfl) d_nil rfl) rfl) (by decide) rfl rfl) d_nopart (d_part (d_callX G_pull rfl (hr.mono (by decide)) rfl T_pull.m T_pull.k T_pull.b (fun _ => pass0A) (d_cons (d_var (i := 0) rfl (.inl rfl) (by decide) (by decide)) (d_cons (d_op od_add (d_op od_mul d_int (d_var (i := 1) rfl (.inl rfl) (by decide) (by decide))) d_int) d_nil rfl) rfl) (by decide) rfl rfl)))))))))))) (fun b ds O Q E h => ?_) (fun ds O Q E h => h)
  · obtain ⟨n, rfl, _⟩ := h; rfl
  · obtain ⟨n, rfl, h1, h8, q⟩ := h
    rw [show startD N_links [.opq (.ref b), .int n] = [.sh (.opq (.ref b)), .sh (.int n), .un, .un, .un, .un] from rfl]
    have fin : ∀ xs : Prs, (∀ p ∈ xs, p.1 < n ∧ p.2 < n) → xs.Nodup → xs.length ≤ 64 → ∀ ys : Prs, ys.Perm xs → Q (.lst (ys.map prD)) O := fun xs a1 a2 a3 ys hp => q ys (fun p hm => a1 p (hp.mem_iff.mp hm)) (hp.nodup_iff.mpr a2) (by rw [hp.length_eq]; exact a3)
    have ring_len : ∀ (os : List Nat) m, (ringP os m).length = m := fun os m => by unfold ringP; simp
    obtain ⟨hrow, hnd, hle⟩ := every_ok (p := 1) h1 h8 (by decide)
    obtain ⟨ps, eps, hps, hpn⟩ := rows_prs hrow hnd
    have hpl : ps.length ≤ 64 := by
      have := congrArg List.length eps
      unfold rowsP at this
      rw [List.length_map] at this
      omega
    refine go_st fun N hN => ?_
    walk_at "go"
    refine ⟨n, rfl, by omega, ?_⟩
    rw [rng_nats]
    walk_at "go"
    refine call_mixed (f := natD) (by rw [List.length_range]; omega) fun os hos => ?_
    have hol : os.length = n := by rw [hos.length_eq, List.length_range]
    walk_at "go"
    subst hN
    refine go_st fun N hN => ?_
    walk_at "go"
    refine call_pull (by decide) (by decide) fun kw kw0 kw1 => ?_
    walk_at "go"
    subst hN
    refine go_st fun N hN => ?_
    walk_at "go"
    refine go_lc (fun d => match d with
      | .int i => prD (os.getD i.toNat 0, os.getD ((i.toNat + 1) % os.length) 0)
      | _ => .non) (fun d hd Qy hq => ?_) (by simp only [rngD, List.length_map, List.length_range, List.length_nil]; exact szk (by omega)) ?_
    · rw [show (tt1, rngD 0 (((n : Int) - 1).toNat)).snd = (List.range (n - 1)).map natD from by rw [← rng_nats, show ((n : Int) - 1).toNat = n - 1 by omega]] at hd
      obtain ⟨i, hi, rfl⟩ := List.mem_map.mp hd
      have hi := List.mem_range.mp hi
      have e1 := nat_at (os := os) (k := i) (by omega)
      have e2 := nat_at (os := os) (k := i + 1) (by omega)
      have hq : Qy (prD (os.getD i 0, os.getD ((i + 1) % os.length) 0)) O := hq
      rw [Nat.mod_eq_of_lt (by omega)] at hq
      rw [show ((i + 1 : Nat) : Int) = (i : Int) + 1 by omega] at e2
      walk_at "go"
      exact hq
    have e0 : ([] ++ (tt1, rngD 0 (((n : Int) - 1).toNat)).snd.map (fun d => match d with
      | .int i => prD (os.getD i.toNat 0, os.getD ((i.toNat + 1) % os.length) 0)
      | _ => .non)) = (ringP os (n - 1)).map prD := by
      rw [List.nil_append, show (tt1, rngD 0 (((n : Int) - 1).toNat)).snd = (List.range (n - 1)).map natD from by rw [← rng_nats, show ((n : Int) - 1).toNat = n - 1 by omega], List.map_map, ringP, List.map_map]
      exact List.map_congr_left fun i _ => rfl
    rw [e0]
    clear e0
    walk_at "go"
    subst hN
    obtain ⟨r1, r2⟩ := ring_ok (m := n - 1) hos (by omega)
    obtain ⟨r3, r4⟩ := ring_ok (m := n) hos (by omega)
    by_cases k0 : kw = 0
    · have e : decide (kw = 0) = true := decide_eq_true k0
      refine go_st fun N hN => ?_
      walk_at "go"
      refine call_mixed (by rw [ring_len]; omega) fun ys hys => ?_
      exact fin _ r1 r2 (by rw [ring_len]; omega) ys hys
    have e : decide (kw = 0) = false := decide_eq_false k0
    refine go_st fun N hN => ?_
    walk_at "go"
    subst hN
    clear e
    by_cases k1 : kw = 1
    · have e : decide (kw = 1) = true := decide_eq_true k1
      refine go_st fun N hN => ?_
      walk_at "go"
      by_cases hn1 : 1 < n
      · have e1 : decide ((1 : Int) < (n : Int)) = true := decide_eq_true (by omega)
        walk_at "go"
        have b1 := nat_at (os := os) (k := n - 1) (by omega)
        have b2 := nat_at (os := os) (k := 0) (by omega)
        rw [show ((n - 1 : Nat) : Int) = (n : Int) - 1 by omega] at b1
        refine go_ixL b1 ?_
        walk_at "go"
        refine ⟨szk' (by rw [List.length_map, ring_len]; simp; omega), ?_⟩
        have e2 : (ringP os (n - 1)).map prD ++ [.tup [natD (os.getD (n - 1) 0), natD (os.getD 0 0)]] = (ringP os n).map prD := by
          have e3 : ringP os n = ringP os (n - 1) ++ [(os.getD (n - 1) 0, os.getD 0 0)] := by
            unfold ringP
            rw [show n = (n - 1) + 1 by omega, List.range_succ, List.map_append, show n - 1 + 1 - 1 = n - 1 by omega]
            simp only [List.map_cons, List.map_nil]
            rw [show (n - 1 + 1) % os.length = 0 by rw [hol, show n - 1 + 1 = n by omega]; exact Nat.mod_self n]
          rw [e3, List.map_append]; rfl
        walk_at "go"
        rw [e2]
        refine call_mixed (by rw [ring_len]; omega) fun ys hys => ?_
        exact fin _ r3 r4 (by rw [ring_len]; omega) ys hys
      · have e1 : decide ((1 : Int) < (n : Int)) = false := decide_eq_false (by omega)
        walk_at "go"
        refine ⟨szk' (by rw [List.length_map, ring_len]; simp; omega), ?_⟩
        walk_at "go"
        rw [List.append_nil]
        refine call_mixed (by rw [ring_len]; omega) fun ys hys => ?_
        exact fin _ r1 r2 (by rw [ring_len]; omega) ys hys
    have e : decide (kw = 1) = false := decide_eq_false k1
    refine go_st fun N hN => ?_
    walk_at "go"
    subst hN
    clear e
    by_cases k2 : kw = 2
    · have e : decide (kw = 2) = true := decide_eq_true k2
      refine go_st fun N hN => ?_
      walk_at "go"
      refine call_every (p := 1) h1 h8 (by decide) ?_
      rw [eps, rows_d]
      walk_at "go"
      refine call_mixed (by omega) fun ys hys => ?_
      exact fin _ hps hpn hpl ys hys
    have e : decide (kw = 2) = false := decide_eq_false k2
    refine go_st fun N hN => ?_
    walk_at "go"
    subst hN
    clear e
    walk_at "go"
    refine call_every (p := 1) h1 h8 (by decide) ?_
    rw [eps, rows_d]
    walk_at "go"
    refine call_mixed (by omega) fun ys hys => ?_
    walk_at "go"
    refine call_pull (by omega) (by omega) fun kc kc0 kc1 => ?_
    walk_at "go"
    refine go_slL (cut_take kc0) ?_
    refine q _ (fun p hm => hps p (hys.mem_iff.mp (List.mem_of_mem_take hm))) ((hys.nodup_iff.mpr hpn).sublist (List.take_sublist _ _)) ?_
    rw [List.length_take]
    have := hys.length_eq
    omega
theorem call_words5 {O : Ow} {Q : QD} {E : QX} (h : ∀ w0 w1 w2 w3 w4 : Str, (∀ w ∈ [w0, w1, w2, w3, w4], isNm (.str w) = true) → [w0, w1, w2, w3, w4].Nodup → Q (.lst [.str w0, .str w1, .str w2, .str w3, .str w4]) O) : spM wordsS [.int 5] O Q E :=
  spM.of ⟨5, rfl, by decide, fun ws hl hn hd => match ws, hl, hn, hd with
    | [w0, w1, w2, w3, w4], _, hn, hd => h w0 w1 w2 w3 w4 hn hd⟩
theorem call_links {n : Nat} {O : Ow} {Q : QD} {E : QX} (h1 : 1 ≤ n) (h8 : n ≤ 8) (h : ∀ ps : Prs, (∀ p ∈ ps, p.1 < n ∧ p.2 < n) → ps.Nodup → ps.length ≤ 64 → Q (.lst ((rowsP ps).map rowD)) O) : spM linksS [.int n] O Q E := spM.of ⟨n, rfl, h1, h8, fun ps a b c => by rw [← rows_d]; exact h ps a b c⟩
theorem call_far {n i : Nat} {ps : Prs} {O : Ow} {Q : QD} {E : QX} (h8 : n ≤ 8) (hps : ∀ p ∈ ps, p.1 < n ∧ p.2 < n) (q : Q (.lst ((farN n ps i n).map optD)) O) : spM farS [.int n, .lst ((rowsP ps).map rowD), natD i] O Q E := spM.of ⟨n, ps, i, by rw [rows_d], h8, hps, q⟩
theorem call_same {n : Nat} {a : D} {O : Ow} {Q : QD} {E : QX} (p : Plain n a) (q : Q (.bl true) O) : spM (sameS n) [a, a] O Q E := spM.of ⟨a, a, rfl, p, p, by rw [same_refl n a p]; exact q⟩
theorem plain_b {n : Nat} {b : Bool} : Plain n (.bl b) := by cases n <;> trivial
theorem call_truth {C CQ : Addr} {n : Nat} {t : Tb} {ns : List Str} {s : Say Str} {is : List Nat} {d : D} {O : Ow} {Q : QD} {E : QX} (g : Gd n t) (hf : FitT t s) (hs : Nmd s.nms) (hg : s.good ns = true) (hn : ns.Nodup) (h3 : ns.length ≤ 3) (hd : Seq d (is.map natD)) (hl : ns.length = is.length) (hi : ∀ i ∈ is, i < n) (q : Q (.bl (sem n (rowT t) s (getE (ns.zip is)))) O) :
    spM (truthS C CQ) [.ins C (stF n (kdsOf t)), qsD CQ ns s, d] O Q E := spM.of ⟨n, t, ns, s, is, d, rfl, g, hf, hs, hg, hn, h3, hd, hl, hi, q⟩
end
abbrev s_law : Stmt := topS 77
abbrev N_law : List Str := ["_law_script", "_law_box_here", "_law_turn", "_law_words_here", "_law_size", "_law_rows", "_law_store", "_law_a", "_law_b", "_law_x", "_law_y", "_law_link", "_law_most", "_law_turned", "_law_asks", "_law_begin", "_law_far_here", "_law_end", "_law_told", "_law_due", "_law_saying", "_law_ask"]
theorem sc_law : FnScope N_law ["_law_script"] (defScope s_law) := ⟨rfl, rfl, rfl, by decide +kernel, rfl, by decide +kernel, by decide +kernel⟩
section
variable {w : World} {K : PySem.W.Frag} {mg : Str → Option Value} {base : Heap} {O : Ow} {Q : QD} {E : QX}
theorem ok_law {fB fP fW fL fF fS fT fIS fIQ C CQ : Addr} {fd fdB fdP fdW fdL fdF fdS fdT fdIS fdIQ : FuncData} (F : Fun K "law" "law" s_law (He.fAd K ("law", none)) fd)
    (G_box : FnOk Pr w K mg base CX0 1 fB fdB ["_law_script"] (spBox K)) (T_box : Gf K mg "_law_box" fB fdB ["_law_script"])
    (G_pull : FnOk Pr w K mg base CX0 1 fP fdP ["_law_box_here", "_law_many"] (spB K pullS)) (T_pull : Gf K mg "_law_pull" fP fdP ["_law_box_here", "_law_many"])
    (G_words : FnOk Pr w K mg base CX0 3 fW fdW ["_law_box_here", "_law_many"] (spB K wordsS)) (T_words : Gf K mg "_law_words" fW fdW ["_law_box_here", "_law_many"])
    (G_links : FnOk Pr w K mg base CX0 3 fL fdL ["_law_box_here", "_law_size"] (spB K linksS)) (T_links : Gf K mg "_law_links" fL fdL ["_law_box_here", "_law_size"])
    (G_far : FnOk Pr w K mg base CX0 1 fF fdF ["_law_size", "_law_rows", "_law_begin"] (spD K farS)) (T_far : Gf K mg "_law_far" fF fdF ["_law_size", "_law_rows", "_law_begin"])
    (G_same : FnOk Pr w K mg base CX0 6 fS fdS ["_law_found", "_law_due"] (spD K (sameS 4))) (T_same : Gf K mg "_law_same" fS fdS ["_law_found", "_law_due"])
    (G_truth : FnOk Pr w K mg base (L2.CX Pr w) 17 fT fdT ["store", "question", "inputs"] (spD K (truthS C CQ))) (T_truth : Gf K mg "truth" fT fdT ["store", "question", "inputs"])
    (MK_Store : Mk K C fIS) (G_Store_init : FnOk Pr w K mg base (L2.CX Pr w) 5 fIS fdIS psS (spD K (iniST (He.ga K) C))) (M_Store : mg "Store" = some (.ref C))
    {gA : List Value → List Value → List Value} (KB_Store_ : KBn K fdIS psS 3 [] gA (fun vs _ => vs))
    (MK_Question : Mk K CQ fIQ) (G_Question_init : FnOk Pr w K mg base (L2.CX Pr w) 11 fIQ fdIQ psQ (spD K (iniQ (He.ga K) CQ))) (M_Question : mg "Question" = some (.ref CQ))
    {gB : List Value → List Value → List Value} (KB_Question_ : KBn K fdIQ psQ 3 [] gB (fun vs _ => vs))
    (m_range : mg "range" = none) (m_len : mg "len" = none) (m_list : mg "list" = none) (m_int : mg "int" = none) :
    FnOk Pr w K mg base CX0 20 (He.fAd K ("law", none)) fd ["_law_script"] (spLaw K []) := by
  refine Fun.okC F sc_law (fun vs H Q E h => ?_) (fun A outer s H vs Q E hr h => ?_)
  · obtain ⟨a, ns, rfl, _⟩ := h; rfl
  · obtain ⟨a, ns, rfl, hS, hT, q⟩ := h
    have D1 : ∀ (b l : Addr), DPSs (cxOf CX0 Pr w K mg base N_law "law" (defScope s_law) (He.fAd K ("law", none)) (.ref (He.codeOf K ("law", none))) A outer s H E).nox ⟨boB b l [], fun _ _ _ _ => False⟩ (defBody s_law).tail _ := fun b l =>
      (d_scons (d_for PassesOwn.never rfl (d_rng1 rfl m_range (d_cons d_int d_nil rfl) rfl) (dg_name (i := 2) sc_law.nd rfl (.inl rfl) (.inl rfl)) (d_scons (d_par (i := 3) (j := 4) rfl sc_law.nd rfl rfl (by decide) rfl rfl (d_cons (d_callX G_words rfl (hr.mono (by decide)) rfl T_words.m T_words.k T_words.b (fun _ => pass0A) (d_cons (d_var (i := 1) rfl (.inl rfl) (by decide) (by decide)) (d_cons d_int d_nil rfl) rfl) (by decide) rfl rfl) (d_cons (d_op od_add d_int (d_callX G_pull rfl (hr.mono (by decide)) rfl T_pull.m T_pull.k T_pull.b (fun _ => pass0A) (d_cons (d_var (i := 1) rfl (.inl rfl) (by decide) (by decide)) (d_cons d_int d_nil rfl) rfl) (by decide) rfl rfl)) d_nil rfl) rfl) rfl rfl)
      (d_scons (d_set (i := 5) sc_law.nd rfl (.inl rfl) (d_callX G_links rfl (hr.mono (by decide)) rfl T_links.m T_links.k T_links.b (fun _ => pass0A) (d_cons (d_var (i := 1) rfl (.inl rfl) (by decide) (by decide)) (d_cons (d_var (i := 4) rfl (.inl rfl) (by decide) (by decide)) d_nil rfl) rfl) (by decide) rfl rfl) rfl (.inl rfl))
      (d_scons (d_set (i := 6) sc_law.nd rfl (.inr rfl) (d_makeG (fun _ => rfl) MK_Store G_Store_init (hr.mono (by decide)) rfl M_Store KB_Store_ GD_Store_ passF (d_cons (d_var (i := 4) rfl (.inl rfl) (by decide) (by decide)) (d_cons (d_frz (d_disp (dpp_cons (d_ix (d_var (i := 3) rfl (.inl rfl) (by decide) (by decide)) d_int (fun _ _ => rfl)) (d_tup (d_cons d_int (d_cons (d_callTy cd_list rfl m_list boot_list (d_cons (d_var (i := 5) rfl (.inl rfl) (by decide) (by decide)) d_nil rfl) (by decide) (by decide) rfl rfl) d_nil rfl) rfl)) dpp_nil) rfl rfl (fun z => by cases z) (by decide))) d_nil rfl) rfl) d_knil rfl rfl (by decide) rfl rfl) rfl (.inl rfl))
      (d_scons (d_asg (d_tup (d_cons (d_ix (d_var (i := 3) rfl (.inl rfl) (by decide) (by decide)) d_int (fun _ _ => rfl)) (d_cons (d_ix (d_var (i := 3) rfl (.inl rfl) (by decide) (by decide)) d_int (fun _ _ => rfl)) (d_cons (d_ix (d_var (i := 3) rfl (.inl rfl) (by decide) (by decide)) d_int (fun _ _ => rfl)) (d_cons (d_ix (d_var (i := 3) rfl (.inl rfl) (by decide) (by decide)) d_int (fun _ _ => rfl)) d_nil rfl) rfl) rfl) rfl)) (dg_tup (n := 4) rfl (dgs_cons (dg_name (i := 7) sc_law.nd rfl (.inr rfl) (.inl rfl)) (dgs_cons (dg_name (i := 8) sc_law.nd rfl (.inr rfl) (.inl rfl)) (dgs_cons (dg_name (i := 9) sc_law.nd rfl (.inl rfl) (.inl rfl)) (dgs_cons (dg_name (i := 10) sc_law.nd rfl (.inl rfl) (.inl rfl)) dgs_nil rfl) rfl) rfl) rfl) rfl rfl) rfl rfl rfl)
      (d_scons (d_set (i := 11) sc_law.nd rfl (.inl rfl) (d_tup (d_cons d_str (d_cons (d_ix (d_var (i := 3) rfl (.inl rfl) (by decide) (by decide)) d_int (fun _ _ => rfl)) (d_cons (d_var (i := 9) rfl (.inl rfl) (by decide) (by decide)) (d_cons (d_var (i := 10) rfl (.inl rfl) (by decide) (by decide)) d_nil rfl) rfl) rfl) rfl)) rfl (.inl rfl))
      (d_scons (d_set (i := 12) sc_law.nd rfl (.inl rfl) (d_callX G_pull rfl (hr.mono (by decide)) rfl T_pull.m T_pull.k T_pull.b (fun _ => pass0A) (d_cons (d_var (i := 1) rfl (.inl rfl) (by decide) (by decide)) (d_cons d_int d_nil rfl) rfl) (by decide) rfl rfl) rfl (.inl rfl))
      (d_scons (d_set (i := 13) sc_law.nd rfl (.inl rfl) (d_tup (d_cons d_str (d_cons (d_var (i := 9) rfl (.inl rfl) (by decide) (by decide)) (d_cons (d_var (i := 10) rfl (.inl rfl) (by decide) (by decide)) (d_cons (d_tup (d_cons d_str (d_cons (d_ix (d_var (i := 3) rfl (.inl rfl) (by decide) (by decide)) d_int (fun _ _ => rfl)) (d_cons (d_var (i := 10) rfl (.inl rfl) (by decide) (by decide)) (d_cons (d_var (i := 9) rfl (.inl rfl) (by decide) (by decide)) d_nil rfl) rfl) rfl) rfl)) (d_cons (d_var (i := 8) rfl (.inr (.inl rfl)) (by decide) (by decide)) (d_cons (d_var (i := 7) rfl (.inr (.inl rfl)) (by decide) (by decide)) d_nil rfl) rfl) rfl) rfl) rfl) rfl)) rfl (.inl rfl))
      (d_scons (d_setLc (i := 14) rfl sc_law.nd rfl rfl (sw_true rfl rfl rfl (by decide +kernel)) (d_iter (d_lst (d_cons (d_tup (d_cons d_str (d_cons (d_var (i := 9) rfl (.inl rfl) (by decide) (by decide)) (d_cons (d_var (i := 10) rfl (.inl rfl) (by decide) (by decide)) (d_cons (d_var (i := 11) rfl (.inl rfl) (by decide) (by decide)) (d_cons (d_var (i := 7) rfl (.inr (.inl rfl)) (by decide) (by decide)) (d_cons (d_var (i := 8) rfl (.inr (.inl rfl)) (by decide) (by decide)) d_nil rfl) rfl) rfl) rfl) rfl) rfl)) (d_cons (d_tup (d_cons d_str (d_cons (d_var (i := 12) rfl (.inl rfl) (by decide) (by decide)) (d_cons (d_var (i := 9) rfl (.inl rfl) (by decide) (by decide)) (d_cons (d_var (i := 10) rfl (.inl rfl) (by decide) (by decide)) (d_cons (d_var (i := 11) rfl (.inl rfl) (by decide) (by decide)) (d_cons (d_var (i := 7) rfl (.inr (.inl rfl)) (by decide) (by decide)) (d_cons (d_var (i := 8) rfl (.inr (.inl rfl)) (by decide) (by decide)) d_nil rfl) rfl) rfl) rfl) rfl) rfl) rfl)) (d_cons (d_var (i := 13) rfl (.inl rfl) (by decide) (by decide)) d_nil rfl) rfl) rfl))) (blkOk_by (own := [("_law_saying", 20)]) (N := N_law) (sc := defScope s_law) (by decide +kernel)) (fun _ _ _ _ _ => (dg_name (i := 20) sc_law.nd rfl (.inl rfl) (.inr rfl))) (fun _ _ _ _ _ => d_ifs0) (fun _ _ _ _ _ => (d_makeG (fun _ => rfl) MK_Question G_Question_init (hr.mono (by decide)) rfl M_Question KB_Question_ GD_Question_ passF (d_cons (d_lst (d_cons (d_var (i := 7) rfl (.inr (.inl rfl)) (by decide) (by decide)) (d_cons (d_var (i := 8) rfl (.inr (.inl rfl)) (by decide) (by decide)) d_nil rfl) rfl)) (d_cons (d_var (i := 20) rfl (.inl rfl) (by decide) (by decide)) d_nil rfl) rfl) d_knil rfl rfl (by decide) rfl rfl)) (by decide +kernel) (fun _ => rfl))
      (d_scons (d_for PassesOwn.never rfl (d_iter (d_lst (d_cons (d_callX G_pull rfl (hr.mono (by decide)) rfl T_pull.m T_pull.k T_pull.b (fun _ => pass0A) (d_cons (d_var (i := 1) rfl (.inl rfl) (by decide) (by decide)) (d_cons (d_var (i := 4) rfl (.inl rfl) (by decide) (by decide)) d_nil rfl) rfl) (by decide) rfl rfl) (d_cons (d_callX G_pull rfl (hr.mono (by decide)) rfl T_pull.m T_pull.k T_pull.b (fun _ => pass0A) (d_cons (d_var (i := 1) rfl (.inl rfl) (by decide) (by decide)) (d_cons (d_var (i := 4) rfl (.inl rfl) (by decide) (by decide)) d_nil rfl) rfl) (by decide) rfl rfl) d_nil rfl) rfl))) (dg_name (i := 15) sc_law.nd rfl (.inr rfl) (.inl rfl)) (d_scons (d_set (i := 16) sc_law.nd rfl (.inl rfl) (d_call G_far (hr.mono (by decide)) rfl T_far.m T_far.k T_far.b (fun _ => pass0A) (d_cons (d_var (i := 4) rfl (.inl rfl) (by decide) (by decide)) (d_cons (d_var (i := 5) rfl (.inl rfl) (by decide) (by decide)) (d_cons (d_var (i := 15) rfl (.inr (.inl rfl)) (by decide) (by decide)) d_nil rfl) rfl) rfl) (by decide) rfl rfl) rfl (.inl rfl))
      (d_sone (d_for PassesOwn.never rfl (d_rng1 rfl m_range (d_cons (d_var (i := 4) rfl (.inl rfl) (by decide) (by decide)) d_nil rfl) rfl) (dg_name (i := 17) sc_law.nd rfl (.inr rfl) (.inl rfl)) (d_scons (d_setLc (i := 18) rfl sc_law.nd rfl rfl (sw_true rfl rfl rfl (by decide +kernel)) (d_iter (d_var (i := 14) rfl (.inl rfl) (by decide) (by decide))) (blkOk_by (own := [("_law_ask", 21)]) (N := N_law) (sc := defScope s_law) (by decide +kernel)) (fun _ _ _ _ _ => (dg_name (i := 21) sc_law.nd rfl (.inl rfl) (.inr rfl))) (fun _ _ _ _ _ => d_ifs0) (fun _ _ _ _ _ => (d_call G_truth (hr.mono (by decide)) rfl T_truth.m T_truth.k T_truth.b (fun σ pins H' s1 e s' I c => passF pins σ H' s1 e s' I c) (d_cons (d_var (i := 6) rfl (.inr (.inl rfl)) (by decide) (by decide)) (d_cons (d_var (i := 21) rfl (.inl rfl) (by decide) (by decide)) (d_cons (d_lst (d_cons (d_var (i := 15) rfl (.inr (.inl rfl)) (by decide) (by decide)) (d_cons (d_var (i := 17) rfl (.inr (.inl rfl)) (by decide) (by decide)) d_nil rfl) rfl)) d_nil rfl) rfl) rfl) (by decide) rfl rfl)) (by decide +kernel) (fun _ => rfl))
      (d_scons (d_set (i := 19) sc_law.nd rfl (.inl rfl) (d_cmp od_isnot (d_ix (d_var (i := 16) rfl (.inl rfl) (by decide) (by decide)) (d_var (i := 17) rfl (.inr (.inl rfl)) (by decide) (by decide)) (fun _ _ => rfl)) d_non (nomark _)) rfl (.inl rfl))
      (d_sone (d_ifS (d_tnot (d_test (d_call G_same (hr.mono (by decide)) rfl T_same.m T_same.k T_same.b (fun _ => pass0A) (d_cons (d_var (i := 18) rfl (.inl rfl) (by decide) (by decide)) (d_cons (d_lst (d_cons (d_var (i := 19) rfl (.inl rfl) (by decide) (by decide)) (d_cons (d_and (d_var (i := 19) rfl (.inl rfl) (by decide) (by decide)) (d_one (d_cmp od_le (d_ix (d_var (i := 16) rfl (.inl rfl) (by decide) (by decide)) (d_var (i := 17) rfl (.inr (.inl rfl)) (by decide) (by decide)) (fun _ _ => rfl)) (d_var (i := 12) rfl (.inl rfl) (by decide) (by decide)) (nomark _)))) (d_cons (d_var (i := 19) rfl (.inl rfl) (by decide) (by decide)) d_nil rfl) rfl) rfl)) d_nil rfl) rfl) (by decide) rfl rfl) (by intro _; rfl))) (d_sone (d_ret d_bl)) d_snil)))) (fun _ => rfl)))) (fun _ => rfl))
      (d_sone (d_ifS (d_tnot (d_test (d_call G_same (hr.mono (by decide)) rfl T_same.m T_same.k T_same.b (fun _ => pass0A) (d_cons (d_call G_truth (hr.mono (by decide)) rfl T_truth.m T_truth.k T_truth.b (fun σ pins H' s1 e s' I c => passF pins σ H' s1 e s' I c) (d_cons (d_var (i := 6) rfl (.inr (.inl rfl)) (by decide) (by decide)) (d_cons (d_makeG (fun _ => rfl) MK_Question G_Question_init (hr.mono (by decide)) rfl M_Question KB_Question_ GD_Question_ passF (d_cons (d_lst (d_cons (d_var (i := 7) rfl (.inr (.inl rfl)) (by decide) (by decide)) d_nil rfl)) (d_cons (d_tup (d_cons d_str (d_cons (d_var (i := 9) rfl (.inl rfl) (by decide) (by decide)) (d_cons (d_var (i := 10) rfl (.inl rfl) (by decide) (by decide)) (d_cons (d_var (i := 11) rfl (.inl rfl) (by decide) (by decide)) (d_cons (d_var (i := 7) rfl (.inr (.inl rfl)) (by decide) (by decide)) (d_cons (d_var (i := 7) rfl (.inr (.inl rfl)) (by decide) (by decide)) d_nil rfl) rfl) rfl) rfl) rfl) rfl)) d_nil rfl) rfl) d_knil rfl rfl (by decide) rfl rfl) (d_cons (d_tup (d_cons (d_op od_sub (d_var (i := 4) rfl (.inl rfl) (by decide) (by decide)) d_int) d_nil rfl)) d_nil rfl) rfl) rfl) (by decide) rfl rfl) (d_cons d_bl d_nil rfl) rfl) (by decide) rfl rfl) (by intro _; rfl))) (d_sone (d_ret d_bl)) d_snil))))))))))) (fun _ => rfl))
      (d_sone (d_ret d_bl)))
    refine ⟨_, pss_cons (ps_set (i := 1) sc_law.nd rfl (.inl rfl) (pe_call G_box (hr.mono (by decide)) rfl T_box.m T_box.k T_box.b .nil pass0 (pa_cons (pv 0) pa_nil))) (pss_box D1), ?_⟩
    refine ⟨.ref a, rfl, a, ns, rfl, hS, fun b l mm ms H1 sm nb hb hl ne m0 m1 => ⟨b, l, law_read (n := N_law.length - 2) (D1 b l).mo hb hl ne (fun p hp => ?_) m0 m1 q ?_⟩⟩
    · exact absurd hp List.not_mem_nil
    rw [show boxed b (N_law.length - 2) = [.un, .sh (.opq (.ref b)), .un, .un, .un, .un, .un, .un, .un, .un, .un, .un, .un, .un, .un, .un, .un, .un, .un, .un, .un, .un] from rfl]
    clear D1
    refine go_st fun N hN => ?_
    walk_at "go"
    refine go_for (rngD 0 2) (fun _ ρ _ => ∃ s2 s3 s4 s5 s6 s7 s8 s9 s10 s11 s12 s13 s14 s15 s16 s17 s18 s19 s20 s21 : Sl, ρ = [.un, .sh (.opq (.ref b)), s2, s3, s4, s5, s6, s7, s8, s9, s10, s11, s12, s13, s14, s15, s16, s17, s18, s19, s20, s21]) ⟨_, _, _, _, _, _, _, _, _, _, _, _, _, _, _, _, _, _, _, _, rfl⟩ ?_ ?_
    rotate_left
    · intro r O _
      subst hN
      walk_at "go"
    rintro i0 dt hd ρ O ⟨s2, s3, s4, s5, s6, s7, s8, s9, s10, s11, s12, s13, s14, s15, s16, s17, s18, s19, s20, s21, rfl⟩ N2 hN2
    subst hN
    refine go_set (ρ' := [.un, .sh (.opq (.ref b)), .sh dt, s3, s4, s5, s6, s7, s8, s9, s10, s11, s12, s13, s14, s15, s16, s17, s18, s19, s20, s21]) rfl ?_
    refine go_st fun N hN => ?_
    walk_at "go"
    refine call_words5 fun w0 w1 w2 w3 w4 hw hwd => ?_
    walk_at "go"
    refine call_pull (by decide) (by decide) fun kn kn0 kn1 => ?_
    obtain ⟨n, en, h1, h8⟩ : ∃ n : Nat, 1 + kn = (n : Int) ∧ 1 ≤ n ∧ n ≤ 8 := ⟨(1 + kn).toNat, by omega, by omega, by omega⟩
    walk_at "go"
    rw [en]
    subst hN
    refine go_st fun N hN => ?_
    walk_at "go"
    refine call_links h1 h8 fun ps hps hpn hpl => ?_
    walk_at "go"
    subst hN
    have hw0 : isNm (.str w0) = true := hw w0 (by simp)
    have g : Gd n (tL w0 ps) := gd_L h1 h8 hw0 hps hpn hpl
    refine go_st fun N hN => ?_
    walk_at "go"
    intro p np
    walk_at "go"
    refine ⟨[(.inr w0, tbD 2 (rowsP ps))], rfl, by show 1 ≤ 15; decide, oset_self, ?_⟩
    walk_at "go"
    rw [oset_oset, odel_oset np]
    refine call_mkSt (t := tL w0 ps) g ?_
    walk_at "go"
    subst hN
    have hx : w3 ≠ w4 ∧ w1 ≠ w2 ∧ w3 ∉ [w1, w2] ∧ w4 ∉ [w1, w2] := by
      simp only [List.nodup_cons, List.mem_cons, List.not_mem_nil, or_false, not_or] at hwd ⊢
      obtain ⟨⟨a1, a2, a3, a4⟩, ⟨b1, b2, b3⟩, ⟨c1, c2⟩, d1, _⟩ := hwd
      exact ⟨d1, b1, ⟨fun z => b2 z.symm, fun z => c1 z.symm⟩, fun z => b3 z.symm, fun z => c2 z.symm⟩
    obtain ⟨hxy, hab, hxn, hyn⟩ := hx
    refine go_st fun N hN => ?_
    walk_at "go"
    subst hN
    refine go_st fun N hN => ?_
    walk_at "go"
    subst hN
    refine go_st fun N hN => ?_
    walk_at "go"
    refine call_pull (by decide) (by decide) fun km km0 km1 => ?_
    obtain ⟨m, rfl, hm8⟩ : ∃ m : Nat, km = (m : Int) ∧ m ≤ 8 := ⟨km.toNat, by omega, by omega⟩
    walk_at "go"
    subst hN
    refine go_st fun N hN => ?_
    walk_at "go"
    subst hN
    have nm2 : Nmd [w1, w2] := fun y hy => hw y (by simp at hy ⊢; rcases hy with rfl | rfl <;> simp)
    have nd2 : [w1, w2].Nodup := by simp [hab]
    have nmW : Nmd (Say.way w3 w4 (.link w0 w3 w4) w1 w2).nms := fun y hy => hw y (by simp [Say.nms] at hy ⊢; rcases hy with rfl | rfl | rfl | rfl | rfl | rfl | rfl <;> simp)
    have nmN : Nmd (Say.within m w3 w4 (.link w0 w3 w4) w1 w2).nms := fun y hy => hw y (by simp [Say.nms] at hy ⊢; rcases hy with rfl | rfl | rfl | rfl | rfl | rfl | rfl <;> simp)
    have nmT : Nmd (Say.way w3 w4 (.link w0 w4 w3) w2 w1).nms := fun y hy => hw y (by simp [Say.nms] at hy ⊢; rcases hy with rfl | rfl | rfl | rfl | rfl | rfl | rfl <;> simp)
    have nmA : Nmd (Say.way w3 w4 (.link w0 w3 w4) w1 w1).nms := fun y hy => hw y (by simp [Say.nms] at hy ⊢; rcases hy with rfl | rfl | rfl | rfl | rfl | rfl | rfl <;> simp)
    have gW : Say.good [w1, w2] (.way w3 w4 (.link w0 w3 w4) w1 w2) = true := good_W hxy hxn hyn (by simp) (by simp) (by simp) (.inl rfl) (.inr rfl)
    have gN : Say.good [w1, w2] (.within m w3 w4 (.link w0 w3 w4) w1 w2) = true := good_N hm8 hxy hxn hyn (by simp) (by simp) (by simp) (.inl rfl) (.inr rfl)
    have gT : Say.good [w1, w2] (.way w3 w4 (.link w0 w4 w3) w2 w1) = true := good_W hxy hxn hyn (by simp) (by simp) (by simp) (.inr rfl) (.inl rfl)
    have gA : Say.good [w1] (.way w3 w4 (.link w0 w3 w4) w1 w1) = true := good_W hxy (fun z => hxn (by simp at z; simp [z])) (fun z => hyn (by simp at z; simp [z])) (by simp) (by simp) (by simp) (.inl rfl) (.inr rfl)
    refine go_st fun N hN => ?_
    walk_at "go"
    refine mk_good (ns := [w1, w2]) (s := .way w3 w4 (.link w0 w3 w4) w1 w2) (.inl rfl) nm2 nd2 (by simp) nmW gW ?_
    walk_at "go"
    refine mk_good (ns := [w1, w2]) (s := .within m w3 w4 (.link w0 w3 w4) w1 w2) (.inl rfl) nm2 nd2 (by simp) nmN gN ?_
    walk_at "go"
    refine mk_good (ns := [w1, w2]) (s := .way w3 w4 (.link w0 w4 w3) w2 w1) (.inl rfl) nm2 nd2 (by simp) nmT gT ?_
    walk_at "go"
    subst hN
    refine go_st fun N hN => ?_
    walk_at "go"
    refine call_pull (by omega) (by omega) fun ka ka0 ka1 => ?_
    obtain ⟨i1, rfl, hi1⟩ : ∃ i : Nat, ka = (i : Int) ∧ i < n := ⟨ka.toNat, by omega, by omega⟩
    walk_at "go"
    refine call_pull (by omega) (by omega) fun kb kb0 kb1 => ?_
    obtain ⟨i2, rfl, hi2⟩ : ∃ i : Nat, kb = (i : Int) ∧ i < n := ⟨kb.toNat, by omega, by omega⟩
    walk_at "go"
    refine go_for [natD i1, natD i2] (fun _ ρ O1 => O1 = O ∧ ∃ s15 s16 s17 s18 s19 s20 s21 : Sl, ρ = [.un, .sh (.opq (.ref b)), .sh dt, .sh (.lst [.str w0, .str w1, .str w2, .str w3, .str w4]), .sh (.int n), .sh (.lst ((rowsP ps).map rowD)), .sh (.ins C (stF n (kdsOf (tL w0 ps)))), .sh (.str w1), .sh (.str w2), .sh (.str w3), .sh (.str w4), .sh (.tup [.str "link", .str w0, .str w3, .str w4]), .sh (.int m), .sh (Say.way w3 w4 (.link w0 w4 w3) w2 w1).d, .sh (.lst [qsD CQ [w1, w2] (.way w3 w4 (.link w0 w3 w4) w1 w2), qsD CQ [w1, w2] (.within m w3 w4 (.link w0 w3 w4) w1 w2), qsD CQ [w1, w2] (.way w3 w4 (.link w0 w4 w3) w2 w1)]), s15, s16, s17, s18, s19, s20, s21]) ⟨rfl, _, _, _, _, _, _, _, rfl⟩ ?_ ?_
    · rintro ib db hdb ρ O1 ⟨rfl, s15, s16, s17, s18, s19, s20, s21, rfl⟩ N3 hN3
      obtain ⟨i, rfl, hin⟩ : ∃ i : Nat, db = natD i ∧ i < n := by
        have := List.mem_of_getElem? hdb
        simp only [List.mem_cons, List.not_mem_nil, or_false] at this
        rcases this with rfl | rfl
        · exact ⟨i1, rfl, hi1⟩
        · exact ⟨i2, rfl, hi2⟩
      subst hN
      refine go_set (ρ' := [.un, .sh (.opq (.ref b)), .sh dt, .sh (.lst [.str w0, .str w1, .str w2, .str w3, .str w4]), .sh (.int n), .sh (.lst ((rowsP ps).map rowD)), .sh (.ins C (stF n (kdsOf (tL w0 ps)))), .sh (.str w1), .sh (.str w2), .sh (.str w3), .sh (.str w4), .sh (.tup [.str "link", .str w0, .str w3, .str w4]), .sh (.int m), .sh (Say.way w3 w4 (.link w0 w4 w3) w2 w1).d, .sh (.lst [qsD CQ [w1, w2] (.way w3 w4 (.link w0 w3 w4) w1 w2), qsD CQ [w1, w2] (.within m w3 w4 (.link w0 w3 w4) w1 w2), qsD CQ [w1, w2] (.way w3 w4 (.link w0 w4 w3) w2 w1)]), .sh (natD i), s16, s17, s18, s19, s20, s21]) rfl ?_
      refine go_st fun N hN => ?_
      walk_at "go"
      refine call_far h8 hps ?_
      walk_at "go"
      subst hN
      walk_at "go"
      refine go_for (rngD 0 ((n : Int).toNat)) (fun _ ρ O2 => O2 = O1 ∧ ∃ s17 s18 s19 s20 s21 : Sl, ρ = [.un, .sh (.opq (.ref b)), .sh dt, .sh (.lst [.str w0, .str w1, .str w2, .str w3, .str w4]), .sh (.int n), .sh (.lst ((rowsP ps).map rowD)), .sh (.ins C (stF n (kdsOf (tL w0 ps)))), .sh (.str w1), .sh (.str w2), .sh (.str w3), .sh (.str w4), .sh (.tup [.str "link", .str w0, .str w3, .str w4]), .sh (.int m), .sh (Say.way w3 w4 (.link w0 w4 w3) w2 w1).d, .sh (.lst [qsD CQ [w1, w2] (.way w3 w4 (.link w0 w3 w4) w1 w2), qsD CQ [w1, w2] (.within m w3 w4 (.link w0 w3 w4) w1 w2), qsD CQ [w1, w2] (.way w3 w4 (.link w0 w4 w3) w2 w1)]), .sh (natD i), .sh (.lst ((farN n ps i n).map optD)), s17, s18, s19, s20, s21]) ⟨rfl, _, _, _, _, _, rfl⟩ ?_ ?_
      · rintro ic dc hdc ρ O2 ⟨rfl, s17, s18, s19, s20, s21, rfl⟩ N4 hN4
        obtain ⟨hj, rfl⟩ := rng_get hdc
        have hj : ic < n := by omega
        refine go_set (ρ' := [.un, .sh (.opq (.ref b)), .sh dt, .sh (.lst [.str w0, .str w1, .str w2, .str w3, .str w4]), .sh (.int n), .sh (.lst ((rowsP ps).map rowD)), .sh (.ins C (stF n (kdsOf (tL w0 ps)))), .sh (.str w1), .sh (.str w2), .sh (.str w3), .sh (.str w4), .sh (.tup [.str "link", .str w0, .str w3, .str w4]), .sh (.int m), .sh (Say.way w3 w4 (.link w0 w4 w3) w2 w1).d, .sh (.lst [qsD CQ [w1, w2] (.way w3 w4 (.link w0 w3 w4) w1 w2), qsD CQ [w1, w2] (.within m w3 w4 (.link w0 w3 w4) w1 w2), qsD CQ [w1, w2] (.way w3 w4 (.link w0 w4 w3) w2 w1)]), .sh (natD i), .sh (.lst ((farN n ps i n).map optD)), .sh (natD ic), s18, s19, s20, s21]) rfl ?_
        have hlt : ∀ z ∈ [i, ic], z < n := fun z hz => by
          simp only [List.mem_cons, List.not_mem_nil, or_false] at hz
          rcases hz with rfl | rfl <;> assumption
        refine go_st fun N hN => ?_
        walk_at "go"
        refine call_truth (ns := [w1, w2]) (s := .way w3 w4 (.link w0 w3 w4) w1 w2) (is := [i, ic]) g fit_W nmW gW nd2 (by simp) (.inl rfl) rfl hlt ?_
        rw [show sem n (rowT (tL w0 ps)) (.way w3 w4 (.link w0 w3 w4) w1 w2) (getE ([w1, w2].zip [i, ic])) = (farO n ps i ic).isSome from sem_W hab hxy hps hin]
        walk_at "go"
        refine call_truth (ns := [w1, w2]) (s := .within m w3 w4 (.link w0 w3 w4) w1 w2) (is := [i, ic]) g fit_N nmN gN nd2 (by simp) (.inl rfl) rfl hlt ?_
        rw [show sem n (rowT (tL w0 ps)) (.within m w3 w4 (.link w0 w3 w4) w1 w2) (getE ([w1, w2].zip [i, ic])) = _ from sem_N hab hxy hps hin]
        walk_at "go"
        refine call_truth (ns := [w1, w2]) (s := .way w3 w4 (.link w0 w4 w3) w2 w1) (is := [i, ic]) g fit_W nmT gT nd2 (by simp) (.inl rfl) rfl hlt ?_
        rw [show sem n (rowT (tL w0 ps)) (.way w3 w4 (.link w0 w4 w3) w2 w1) (getE ([w1, w2].zip [i, ic])) = (farO n ps i ic).isSome from sem_T hab hxy hps hin hj]
        walk_at "go"
        subst hN
        have ef : atI ((farN n ps i n).map optD) (ic : Int) = some (optD (farO n ps i ic)) := far_at (by rw [far_len]; exact hj)
        cases ej : farO n ps i ic with
        | none =>
          rw [ej] at ef
          have ef : atI ((farN n ps i n).map optD) (ic : Int) = some .non := ef
          refine go_st fun N hN => ?_
          walk_at "go"
          subst hN
          walk_at "go"
          refine call_same (n := 4) (a := .lst [.bl false, .bl false, .bl false]) (plain_l rfl fun x hx => by
            simp only [List.mem_cons, List.not_mem_nil, or_false] at hx
            rcases hx with rfl | rfl | rfl <;> exact plain_b) ?_
          walk_at "go"
          exact hN4 _ _ ⟨rfl, _, _, _, _, _, rfl⟩
        | some d =>
          rw [ej] at ef
          have ef : atI ((farN n ps i n).map optD) (ic : Int) = some (natD d) := ef
          refine go_st fun N hN => ?_
          walk_at "go"
          subst hN
          walk_at "go"
          have ed : decide ((d : Int) ≤ (m : Int)) = decide (d ≤ m) := decide_eq_decide.mpr (by omega)
          show spM (sameS 4) [.lst [.bl true, .bl (decide (d ≤ m)), .bl true], .lst [.bl true, .bl (decide ((d : Int) ≤ (m : Int))), .bl true]] _ _ _
          rw [ed]
          refine call_same (n := 4) (a := .lst [.bl true, .bl (decide (d ≤ m)), .bl true]) (plain_l rfl fun x hx => by
            simp only [List.mem_cons, List.not_mem_nil, or_false] at hx
            rcases hx with rfl | rfl | rfl <;> exact plain_b) ?_
          walk_at "go"
          exact hN4 _ _ ⟨rfl, _, _, _, _, _, rfl⟩
      · rintro ρ O2 ⟨rfl, s17, s18, s19, s20, s21, rfl⟩
        exact hN3 _ _ ⟨rfl, _, _, _, _, _, _, _, rfl⟩
    · rintro ρ O1 ⟨rfl, s15, s16, s17, s18, s19, s20, s21, rfl⟩
      subst hN
      dsimp only
      walk_at "go"
      refine mk_good (ns := [w1]) (s := .way w3 w4 (.link w0 w3 w4) w1 w1) (.inl rfl) (fun y hy => nm2 y (by simp at hy; simp [hy])) (by simp) (by simp) nmA gA ?_
      walk_at "go"
      have en1 : ((n : Int) - 1) = ((n - 1 : Nat) : Int) := by omega
      dsimp only
      rw [en1]
      refine call_truth (ns := [w1]) (s := .way w3 w4 (.link w0 w3 w4) w1 w1) (is := [n - 1]) g fit_W nmA gA (by simp) (by simp) (.inr rfl) rfl (fun z hz => by simp at hz; omega) ?_
      rw [show sem n (rowT (tL w0 ps)) (.way w3 w4 (.link w0 w3 w4) w1 w1) (getE ([w1].zip [n - 1])) = true from sem_A hxy (by omega)]
      walk_at "go"
      refine call_same plain_b ?_
      walk_at "go"
      exact hN2 _ _ ⟨_, _, _, _, _, _, _, _, _, _, _, _, _, _, _, _, _, _, _, _, rfl⟩
end
end LW
set_option Elab.async false
set_option linter.all false
set_option maxRecDepth 100000
set_option maxHeartbeats 0
namespace LW
open PySem PySem.Spec PyProof.Rows L2 EV PySem.XO PySem.W
abbrev FnP (K : PySem.W.Frag) (x : Str) (st : Stmt) (f : Addr) (fd : FuncData) : Prop := FunD K x x (defArgs st) (defBody st) (defScope st) [] [] f fd
theorem fun_of {K : PySem.W.Frag} {x q : Str} {st : Stmt} {kws : List (Str × V)} {f : Addr} {fd : FuncData} (F : FunD K x q (defArgs st) (defBody st) (defScope st) [] kws f fd) : Fun K x q st f fd := by
  obtain ⟨oc, od, dV, kV, doc, pm, an, cdv, ct, osl, e, lk, hcd, hD, hK⟩ := F.ex
  rcases hD with ⟨_, rfl⟩ | ⟨e, _⟩
  · exact ⟨⟨oc, od, kV, doc, pm, an, cdv, ct, osl, e, lk, hcd⟩, F.kp⟩
  · exact absurd rfl e
theorem gf_of {K : PySem.W.Frag} {mg : Str → Option Value} {x : Str} {st : Stmt} {f : Addr} {fd : FuncData} {ps : List Str} (F : FnP K x st f fd) (m : mg x = some (.ref f)) (b : Binds K fd ps []) : Gf K mg x f fd ps := ⟨m, F.kp, b⟩
def dd (x : Str) (st : Stmt) : He.DefD := ⟨(x, none), x, x, defArgs st, defBody st, defScope st, [], []⟩
def dm (c x : Str) (q : Str) (st : Stmt) : He.DefD := ⟨(c, some x), x, q, defArgs st, defBody st, defScope st, [], []⟩
def ts : List He.Tab := [(fun K => He.ga K "LENGTHS", lenT.map (·.1)), (fun K => He.ga K "PLACES", placesT.map (·.1))]
def tf : List He.Defn := []
def exT (K : Frag) : Bool := exK K && (tabB K (He.ga K "LENGTHS") lenT && (tabB K (He.ga K "PLACES") placesT && (He.conB K "Store" "MOST" (.int 8))))
def fn : List He.DefD := [dd "_law_box" s_box, dd "_law_pull" s_pull, dd "_law_of" s_of, dd "_law_mixed" s_mixed, dd "_law_words" s_words, dd "_law_same" s_same, dd "_law_every" s_every, dd "_law_links" s_links, dd "_law_far" s_far, dd "law" s_law, dd "is_name" s_is_name, dd "is_number" s_is_number, dd "is_listed" s_is_listed, dd "are_things" s_are_things, dd "check_tables" s_check_tables, dm "Store" "__init__" "Store.__init__" s_Store_init, dd "inner" s_inner, dd "bound" s_bound, dd "used" s_used, dd "is_test" s_is_test, dd "is_headed" s_is_headed, dd "is_saying" s_is_saying, dd "forms_in" s_forms_in, dd "agree" s_agree, dm "Question" "__init__" "Question.__init__" s_Question_init, dd "passes" s_passes, dd "atom_holds" s_atom_holds, dd "levels" s_levels, dd "holds" s_holds, dd "named" s_named, dd "check_fit" s_check_fit, dd "check_inputs" s_check_inputs, dd "truth" s_truth, dm "Store" "_table" "Store._table" s_Store_table, dm "Store" "places" "Store.places" s_Store_places, dm "Store" "tables" "Store.tables" s_Store_tables, dm "Store" "has_row" "Store.has_row" s_Store_has_row, dm "Question" "tables" "Question.tables" s_Question_tables]
def fa : List He.Fa := ([.glo "_law_box", .glo "_law_pull", .glo "_law_of", .glo "_law_mixed", .glo "_law_words", .glo "_law_same", .glo "_law_every", .glo "_law_links", .glo "_law_far", .glo "law", .glo "is_name", .glo "is_number"] : List He.Fa) ++ ([.glo "is_listed", .glo "are_things", .glo "check_tables", .glo "inner", .glo "bound", .glo "used", .glo "is_test", .glo "is_headed", .glo "is_saying", .glo "forms_in", .glo "agree", .glo "passes"] : List He.Fa) ++ ([.glo "atom_holds", .glo "levels", .glo "holds", .glo "named", .glo "check_fit", .glo "check_inputs", .glo "truth", .glo "OnceError", .glo "Missing", .glo "InvalidNumber", .glo "InvalidTable", .glo "InvalidRow"] : List He.Fa) ++ ([.glo "InvalidThings", .glo "Unlike", .glo "InvalidNames", .glo "InvalidSaying", .glo "InvalidInputs", .glo "Unfit", .glo "InvalidText", .glo "TooMany", .glo "UnknownTable", .glo "Store", .glo "Question", .glo "LENGTHS"] : List He.Fa) ++ ([.glo "PLACES", .free "isinstance", .free "str", .free "len", .free "all", .free "int", .free "bool", .free "list", .free "tuple", .free "zip", .free "abs", .free "super"] : List He.Fa) ++ ([.free "range", .free "enumerate", .free "sorted", .free "set", .free "min", .int "LONGEST_NAME" 6, .int "MOST_TABLES" 4, .int "MOST_FORMS" 12, .int "MOST_DEEP" 6, .int "MOST_NAMES" 6, .int "MOST_INPUTS" 3, .str "LETTERS" "abcdefghijklmnopqrstuvwxyz"] : List He.Fa) ++ ([.cls "Store", .mkr "Store", .noat "Store" "size", .noat "Store" "_tables", .cls "Question", .mkr "Question", .noat "Question" "names", .noat "Question" "saying", .noat "Question" "forms", .meth "Store" "_table", .meth "Store" "places", .meth "Store" "tables"] : List He.Fa) ++ ([.meth "Store" "has_row", .meth "Question" "tables"] : List He.Fa)
abbrev Rw : PySem.W.OpenRow := PySem.W.OpenLaw.row PySem.Challenge.rw_oncethrough_k16_ways_hold
abbrev hk : PySem.W.Hook := hookN 6 fa fn ts inL tf exT
def ob (s : PySem.W.SharedT) : AlN := obsN 6 fa fn ts inL tf exT (HandSHeadRun.getT s)
theorem ob_eq (s : PySem.W.SharedT) : ob s = hk.obs s.abs := obsN_eq (HandSHeadRun.getT_eq s)
def loose : List PySem.Str := (["_wall", "OnceError", "Missing", "InvalidNumber", "InvalidTable", "InvalidRow", "InvalidThings", "Unlike", "InvalidNames", "InvalidSaying", "InvalidInputs", "Unfit"] : List PySem.Str) ++ (["InvalidText", "TooMany", "UnknownTable", "LETTERS", "DIGITS", "LONGEST_NAME", "MOST_DIGITS", "is_name", "is_number", "is_listed", "number_in", "numbers_in"] : List PySem.Str) ++ (["are_things", "joined", "MOST_TABLES", "check_tables", "Store", "read_size", "read_table", "read_row", "read_store", "check_fit", "check_inputs", "passes"] : List PySem.Str) ++ (["atom_holds", "levels", "holds", "named", "truth", "MOST_FORMS", "MOST_DEEP", "MOST_NAMES", "LENGTHS", "PLACES", "MOST_INPUTS", "inner"] : List PySem.Str) ++ (["bound", "used", "is_test", "is_headed", "is_saying", "forms_in", "agree", "words_of", "Question", "small_number", "read_test", "read_parts"] : List PySem.Str) ++ (["read_head", "read_saying", "_law_box", "_law_pull", "_law_of", "_law_mixed", "_law_words", "_law_same", "_law_every", "_law_far", "_law_links"] : List PySem.Str)
theorem map_both {α β γ δ : Type} {x : Option α} {f : α → β} {f2 : α → γ} {g : α → δ} {a : β} {b : γ} {c : δ} (h1 : x.map (fun s => (f s, f2 s)) = some (a, b)) (h2 : x.map g = some c) : x.map (fun s => (f s, f2 s, g s)) = some (a, b, c) := by
  cases x with
  | none => cases h1
  | some s =>
    have e1 := Option.some.inj h1
    have e2 := Option.some.inj h2
    have e3 := congrArg Prod.fst e1
    have e4 := congrArg Prod.snd e1
    show some (f s, f2 s, g s) = some (a, b, c)
    rw [show f s = a from e3, show f2 s = b from e4, show g s = c from e2]
theorem lkF (w : World) (os : OsState) : (HandSHeadRun.endF (HandSHeadRun.stepQ (HandSHeadRun.denQ HandSHeadRun.tabQ) Rw.prog (w.withFollow "special-get-raises" false)) 20000 Rw.prog (w.withFollow "special-get-raises" false) os).map (fun s => (HandSHeadRun.looksF Rw.prog (boot_heap (w.withFollow "special-get-raises" false).params) s.abs, HandSHeadRun.seenQ (PySem.W.view Rw.prog [77]) loose (importedModules Rw.prog.main.body) (fun s => xlAt (PySem.W.view Rw.prog [77]) [] s && recOk Rw.toRowW.records s) s.abs)) = some (true, openGood (PySem.W.view Rw.prog [77]) loose) := by
  kernel_rfl
theorem obF (w : World) (os : OsState) : (HandSHeadRun.endF (HandSHeadRun.stepQ (HandSHeadRun.denQ HandSHeadRun.tabQ) Rw.prog (w.withFollow "special-get-raises" false)) 20000 Rw.prog (w.withFollow "special-get-raises" false) os).map ob = some (hk.val (w.withFollow "special-get-raises" false)) := by
  kernel_rfl
theorem runF (w : World) : HandSHeadRun.RunEq Rw (PySem.W.view Rw.prog [77]) hk ob 20000 loose (w.withFollow "special-get-raises" false) := fun os => map_both (lkF w os) (obF w os)
theorem lkT (w : World) (os : OsState) : (HandSHeadRun.endF (HandSHeadRun.stepQ (HandSHeadRun.denQ HandSHeadRun.tabQ) Rw.prog (w.withFollow "special-get-raises" true)) 20000 Rw.prog (w.withFollow "special-get-raises" true) os).map (fun s => (HandSHeadRun.looksF Rw.prog (boot_heap (w.withFollow "special-get-raises" true).params) s.abs, HandSHeadRun.seenQ (PySem.W.view Rw.prog [77]) loose (importedModules Rw.prog.main.body) (fun s => xlAt (PySem.W.view Rw.prog [77]) [] s && recOk Rw.toRowW.records s) s.abs)) = some (true, openGood (PySem.W.view Rw.prog [77]) loose) := by
  kernel_rfl
theorem obT (w : World) (os : OsState) : (HandSHeadRun.endF (HandSHeadRun.stepQ (HandSHeadRun.denQ HandSHeadRun.tabQ) Rw.prog (w.withFollow "special-get-raises" true)) 20000 Rw.prog (w.withFollow "special-get-raises" true) os).map ob = some (hk.val (w.withFollow "special-get-raises" true)) := by
  kernel_rfl
theorem runT (w : World) : HandSHeadRun.RunEq Rw (PySem.W.view Rw.prog [77]) hk ob 20000 loose (w.withFollow "special-get-raises" true) := fun os => map_both (lkT w os) (obT w os)
theorem runB (b : Bool) (w : World) : HandSHeadRun.RunEq Rw (PySem.W.view Rw.prog [77]) hk ob 20000 loose (w.withFollow "special-get-raises" b) := by
  cases b
  · exact runF w
  · exact runT w
theorem run (w : World) : HandSHeadRun.RunEq Rw (PySem.W.view Rw.prog [77]) hk ob 20000 loose w := by
  have h := runB (w.params.followText "special-get-raises") w
  rwa [World.withFollow_self] at h
end LW
set_option Elab.async false
set_option linter.all false
set_option maxRecDepth 100000
set_option maxHeartbeats 0
namespace LW
open PySem PySem.Spec PyProof.Rows L2 EV PySem.XO PySem.W LamX
theorem def_of {K : PySem.W.Frag} (c : He.SaysD fa fn K) (i : Nat) (x : Str) (st : Stmt) (h : fn[i]? = some (dd x st)) : ∃ fd, FnP K x st (He.ga K x) fd := c.def_ i h
theorem dm_of {K : PySem.W.Frag} (c : He.SaysD fa fn K) (i : Nat) (cl x q : Str) (st : Stmt) (h : fn[i]? = some (dm cl x q st)) : ∃ fd, FunD K x q (defArgs st) (defBody st) (defScope st) [] [] (He.ma K (He.ga K cl) x) fd := c.def_ i h
theorem facts {w : World} {K : PySem.W.Frag} {h : Heap} {mg : Str → Option Value} {f : Addr} (X : K.In h) (G : h.Ns mainGlobals mg) (hfa : mg ("law" : Str) = some (.ref f)) (c0 : SaysJ fa fn ts inL tf exT w h K) :
    LawAtS PySem.Challenge.rw_oncethrough_k16_ways_hold w K CX0 20 63 "_law_script" mg f h := by
  have c := c0.i.t.d
  have hin := c0.i.ini
  have hexT := c0.i.more
  simp only [exT, Bool.and_eq_true] at hexT
  obtain ⟨hex, ex_LENGTHS, ex_PLACES, ex_con⟩ := hexT
  obtain ⟨es_LENGTHS, n_LENGTHS, kd_LENGTHS⟩ := c0.i.t.tab 0 rfl
  have TK_LENGTHS : TabK K w (He.ga K "LENGTHS") lenT := tabK_of kd_LENGTHS ex_LENGTHS
  obtain ⟨es_PLACES, n_PLACES, kd_PLACES⟩ := c0.i.t.tab 1 rfl
  have TK_PLACES : TabK K w (He.ga K "PLACES") placesT := tabK_of kd_PLACES ex_PLACES
  obtain ⟨fd0, F0⟩ := def_of c 0 "_law_box" s_box rfl
  obtain ⟨fd1, F1⟩ := def_of c 1 "_law_pull" s_pull rfl
  obtain ⟨fd2, F2⟩ := def_of c 2 "_law_of" s_of rfl
  obtain ⟨fd3, F3⟩ := def_of c 3 "_law_mixed" s_mixed rfl
  obtain ⟨fd4, F4⟩ := def_of c 4 "_law_words" s_words rfl
  obtain ⟨fd5, F5⟩ := def_of c 5 "_law_same" s_same rfl
  obtain ⟨fd6, F6⟩ := def_of c 6 "_law_every" s_every rfl
  obtain ⟨fd7, F7⟩ := def_of c 7 "_law_links" s_links rfl
  obtain ⟨fd8, F8⟩ := def_of c 8 "_law_far" s_far rfl
  obtain ⟨fd9, F9⟩ := def_of c 9 "law" s_law rfl
  obtain ⟨fd10, F10⟩ := def_of c 10 "is_name" s_is_name rfl
  obtain ⟨fd11, F11⟩ := def_of c 11 "is_number" s_is_number rfl
  obtain ⟨fd12, F12⟩ := def_of c 12 "is_listed" s_is_listed rfl
  obtain ⟨fd13, F13⟩ := def_of c 13 "are_things" s_are_things rfl
  obtain ⟨fd14, F14⟩ := def_of c 14 "check_tables" s_check_tables rfl
  obtain ⟨fd15, F15⟩ := dm_of c 15 "Store" "__init__" "Store.__init__" s_Store_init rfl
  obtain ⟨fd16, F16⟩ := def_of c 16 "inner" s_inner rfl
  obtain ⟨fd17, F17⟩ := def_of c 17 "bound" s_bound rfl
  obtain ⟨fd18, F18⟩ := def_of c 18 "used" s_used rfl
  obtain ⟨fd19, F19⟩ := def_of c 19 "is_test" s_is_test rfl
  obtain ⟨fd20, F20⟩ := def_of c 20 "is_headed" s_is_headed rfl
  obtain ⟨fd21, F21⟩ := def_of c 21 "is_saying" s_is_saying rfl
  obtain ⟨fd22, F22⟩ := def_of c 22 "forms_in" s_forms_in rfl
  obtain ⟨fd23, F23⟩ := def_of c 23 "agree" s_agree rfl
  obtain ⟨fd24, F24⟩ := dm_of c 24 "Question" "__init__" "Question.__init__" s_Question_init rfl
  obtain ⟨fd25, F25⟩ := def_of c 25 "passes" s_passes rfl
  obtain ⟨fd26, F26⟩ := def_of c 26 "atom_holds" s_atom_holds rfl
  obtain ⟨fd27, F27⟩ := def_of c 27 "levels" s_levels rfl
  obtain ⟨fd28, F28⟩ := def_of c 28 "holds" s_holds rfl
  obtain ⟨fd29, F29⟩ := def_of c 29 "named" s_named rfl
  obtain ⟨fd30, F30⟩ := def_of c 30 "check_fit" s_check_fit rfl
  obtain ⟨fd31, F31⟩ := def_of c 31 "check_inputs" s_check_inputs rfl
  obtain ⟨fd32, F32⟩ := def_of c 32 "truth" s_truth rfl
  obtain ⟨fd33, F33⟩ := dm_of c 33 "Store" "_table" "Store._table" s_Store_table rfl
  obtain ⟨fd34, F34⟩ := dm_of c 34 "Store" "places" "Store.places" s_Store_places rfl
  obtain ⟨fd35, F35⟩ := dm_of c 35 "Store" "tables" "Store.tables" s_Store_tables rfl
  obtain ⟨fd36, F36⟩ := dm_of c 36 "Store" "has_row" "Store.has_row" s_Store_has_row rfl
  obtain ⟨fd37, F37⟩ := dm_of c 37 "Question" "tables" "Question.tables" s_Question_tables rfl
  have e := hfa.symm.trans (He.glo_ok X G (c.fact 9 (f := .glo "law") rfl))
  cases e
  have b9 := FunD.bindsA (ps := ["_law_script"]) F9 fun _ _ _ _ _ _ us hl => match us, hl with | [_], _ => rfl
  have T0 := gf_of F0 (He.glo_ok X G (c.fact 0 (f := .glo "_law_box") rfl)) (FunD.bindsN (ps := ["_law_script"]) F0 fun _ _ _ _ _ _ us hl => match us, hl with | [_], _ => rfl)
  have T1 := gf_of F1 (He.glo_ok X G (c.fact 1 (f := .glo "_law_pull") rfl)) (FunD.bindsN (ps := ["_law_box_here", "_law_many"]) F1 fun _ _ _ _ _ _ us hl => match us, hl with | [_, _], _ => rfl)
  have T2 := gf_of F2 (He.glo_ok X G (c.fact 2 (f := .glo "_law_of") rfl)) (FunD.bindsN (ps := ["_law_box_here", "_law_some"]) F2 fun _ _ _ _ _ _ us hl => match us, hl with | [_, _], _ => rfl)
  have T3 := gf_of F3 (He.glo_ok X G (c.fact 3 (f := .glo "_law_mixed") rfl)) (FunD.bindsN (ps := ["_law_box_here", "_law_some"]) F3 fun _ _ _ _ _ _ us hl => match us, hl with | [_, _], _ => rfl)
  have T4 := gf_of F4 (He.glo_ok X G (c.fact 4 (f := .glo "_law_words") rfl)) (FunD.bindsN (ps := ["_law_box_here", "_law_many"]) F4 fun _ _ _ _ _ _ us hl => match us, hl with | [_, _], _ => rfl)
  have T5 := gf_of F5 (He.glo_ok X G (c.fact 5 (f := .glo "_law_same") rfl)) (FunD.bindsN (ps := ["_law_found", "_law_due"]) F5 fun _ _ _ _ _ _ us hl => match us, hl with | [_, _], _ => rfl)
  have T6 := gf_of F6 (He.glo_ok X G (c.fact 6 (f := .glo "_law_every") rfl)) (FunD.bindsN (ps := ["_law_size", "_law_places"]) F6 fun _ _ _ _ _ _ us hl => match us, hl with | [_, _], _ => rfl)
  have T7 := gf_of F7 (He.glo_ok X G (c.fact 7 (f := .glo "_law_links") rfl)) (FunD.bindsN (ps := ["_law_box_here", "_law_size"]) F7 fun _ _ _ _ _ _ us hl => match us, hl with | [_, _], _ => rfl)
  have T8 := gf_of F8 (He.glo_ok X G (c.fact 8 (f := .glo "_law_far") rfl)) (FunD.bindsN (ps := ["_law_size", "_law_rows", "_law_begin"]) F8 fun _ _ _ _ _ _ us hl => match us, hl with | [_, _, _], _ => rfl)
  have T10 := gf_of F10 (He.glo_ok X G (c.fact 10 (f := .glo "is_name") rfl)) (FunD.bindsN (ps := ["value"]) F10 fun _ _ _ _ _ _ us hl => match us, hl with | [_], _ => rfl)
  have T11 := gf_of F11 (He.glo_ok X G (c.fact 11 (f := .glo "is_number") rfl)) (FunD.bindsN (ps := ["value", "least", "most"]) F11 fun _ _ _ _ _ _ us hl => match us, hl with | [_, _, _], _ => rfl)
  have T12 := gf_of F12 (He.glo_ok X G (c.fact 12 (f := .glo "is_listed") rfl)) (FunD.bindsN (ps := ["value"]) F12 fun _ _ _ _ _ _ us hl => match us, hl with | [_], _ => rfl)
  have T13 := gf_of F13 (He.glo_ok X G (c.fact 13 (f := .glo "are_things") rfl)) (FunD.bindsN (ps := ["values", "many", "size"]) F13 fun _ _ _ _ _ _ us hl => match us, hl with | [_, _, _], _ => rfl)
  have T14 := gf_of F14 (He.glo_ok X G (c.fact 14 (f := .glo "check_tables") rfl)) (FunD.bindsN (ps := ["size", "tables"]) F14 fun _ _ _ _ _ _ us hl => match us, hl with | [_, _], _ => rfl)
  have T16 := gf_of F16 (He.glo_ok X G (c.fact 15 (f := .glo "inner") rfl)) (FunD.bindsN (ps := ["saying"]) F16 fun _ _ _ _ _ _ us hl => match us, hl with | [_], _ => rfl)
  have T17 := gf_of F17 (He.glo_ok X G (c.fact 16 (f := .glo "bound") rfl)) (FunD.bindsN (ps := ["saying"]) F17 fun _ _ _ _ _ _ us hl => match us, hl with | [_], _ => rfl)
  have T18 := gf_of F18 (He.glo_ok X G (c.fact 17 (f := .glo "used") rfl)) (FunD.bindsN (ps := ["saying"]) F18 fun _ _ _ _ _ _ us hl => match us, hl with | [_], _ => rfl)
  have T19 := gf_of F19 (He.glo_ok X G (c.fact 18 (f := .glo "is_test") rfl)) (FunD.bindsN (ps := ["value"]) F19 fun _ _ _ _ _ _ us hl => match us, hl with | [_], _ => rfl)
  have T20 := gf_of F20 (He.glo_ok X G (c.fact 19 (f := .glo "is_headed") rfl)) (FunD.bindsN (ps := ["saying", "names"]) F20 fun _ _ _ _ _ _ us hl => match us, hl with | [_, _], _ => rfl)
  have T21 := gf_of F21 (He.glo_ok X G (c.fact 20 (f := .glo "is_saying") rfl)) (FunD.bindsN (ps := ["saying", "names", "deep"]) F21 fun _ _ _ _ _ _ us hl => match us, hl with | [_, _, _], _ => rfl)
  have T22 := gf_of F22 (He.glo_ok X G (c.fact 21 (f := .glo "forms_in") rfl)) (FunD.bindsN (ps := ["saying"]) F22 fun _ _ _ _ _ _ us hl => match us, hl with | [_], _ => rfl)
  have T23 := gf_of F23 (He.glo_ok X G (c.fact 22 (f := .glo "agree") rfl)) (FunD.bindsN (ps := ["saying"]) F23 fun _ _ _ _ _ _ us hl => match us, hl with | [_], _ => rfl)
  have T25 := gf_of F25 (He.glo_ok X G (c.fact 23 (f := .glo "passes") rfl)) (FunD.bindsN (ps := ["test", "many"]) F25 fun _ _ _ _ _ _ us hl => match us, hl with | [_, _], _ => rfl)
  have T26 := gf_of F26 (He.glo_ok X G (c.fact 24 (f := .glo "atom_holds") rfl)) (FunD.bindsN (ps := ["store", "saying", "things"]) F26 fun _ _ _ _ _ _ us hl => match us, hl with | [_, _, _], _ => rfl)
  have T27 := gf_of F27 (He.glo_ok X G (c.fact 25 (f := .glo "levels") rfl)) (FunD.bindsN (ps := ["store", "saying", "things"]) F27 fun _ _ _ _ _ _ us hl => match us, hl with | [_, _, _], _ => rfl)
  have T28 := gf_of F28 (He.glo_ok X G (c.fact 26 (f := .glo "holds") rfl)) (FunD.bindsN (ps := ["store", "saying", "things"]) F28 fun _ _ _ _ _ _ us hl => match us, hl with | [_, _, _], _ => rfl)
  have T29 := gf_of F29 (He.glo_ok X G (c.fact 27 (f := .glo "named") rfl)) (FunD.bindsN (ps := ["question", "inputs"]) F29 fun _ _ _ _ _ _ us hl => match us, hl with | [_, _], _ => rfl)
  have T30 := gf_of F30 (He.glo_ok X G (c.fact 28 (f := .glo "check_fit") rfl)) (FunD.bindsN (ps := ["store", "tables"]) F30 fun _ _ _ _ _ _ us hl => match us, hl with | [_, _], _ => rfl)
  have T31 := gf_of F31 (He.glo_ok X G (c.fact 29 (f := .glo "check_inputs") rfl)) (FunD.bindsN (ps := ["store", "many", "inputs"]) F31 fun _ _ _ _ _ _ us hl => match us, hl with | [_, _, _], _ => rfl)
  have T32 := gf_of F32 (He.glo_ok X G (c.fact 30 (f := .glo "truth") rfl)) (FunD.bindsN (ps := ["store", "question", "inputs"]) F32 fun _ _ _ _ _ _ us hl => match us, hl with | [_, _, _], _ => rfl)
  have m_isinstance := He.free_ok X G (c.fact 49 (f := .free "isinstance") rfl)
  have m_str := He.free_ok X G (c.fact 50 (f := .free "str") rfl)
  have m_len := He.free_ok X G (c.fact 51 (f := .free "len") rfl)
  have m_all := He.free_ok X G (c.fact 52 (f := .free "all") rfl)
  have m_int := He.free_ok X G (c.fact 53 (f := .free "int") rfl)
  have m_bool := He.free_ok X G (c.fact 54 (f := .free "bool") rfl)
  have m_list := He.free_ok X G (c.fact 55 (f := .free "list") rfl)
  have m_tuple := He.free_ok X G (c.fact 56 (f := .free "tuple") rfl)
  have m_zip := He.free_ok X G (c.fact 57 (f := .free "zip") rfl)
  have m_abs := He.free_ok X G (c.fact 58 (f := .free "abs") rfl)
  have m_super := He.free_ok X G (c.fact 59 (f := .free "super") rfl)
  have m_range := He.free_ok X G (c.fact 60 (f := .free "range") rfl)
  have m_enumerate := He.free_ok X G (c.fact 61 (f := .free "enumerate") rfl)
  have m_sorted := He.free_ok X G (c.fact 62 (f := .free "sorted") rfl)
  have m_set := He.free_ok X G (c.fact 63 (f := .free "set") rfl)
  have m_min := He.free_ok X G (c.fact 64 (f := .free "min") rfl)
  obtain ⟨t_LONGEST_NAME, M_LONGEST_NAME⟩ := He.int_ok X G (c.fact 65 (f := .int "LONGEST_NAME" 6) rfl)
  obtain ⟨t_MOST_TABLES, M_MOST_TABLES⟩ := He.int_ok X G (c.fact 66 (f := .int "MOST_TABLES" 4) rfl)
  obtain ⟨t_MOST_FORMS, M_MOST_FORMS⟩ := He.int_ok X G (c.fact 67 (f := .int "MOST_FORMS" 12) rfl)
  obtain ⟨t_MOST_DEEP, M_MOST_DEEP⟩ := He.int_ok X G (c.fact 68 (f := .int "MOST_DEEP" 6) rfl)
  obtain ⟨t_MOST_NAMES, M_MOST_NAMES⟩ := He.int_ok X G (c.fact 69 (f := .int "MOST_NAMES" 6) rfl)
  obtain ⟨t_MOST_INPUTS, M_MOST_INPUTS⟩ := He.int_ok X G (c.fact 70 (f := .int "MOST_INPUTS" 3) rfl)
  obtain ⟨t_LETTERS, M_LETTERS⟩ := He.str_ok X G (c.fact 71 (f := .str "LETTERS" "abcdefghijklmnopqrstuvwxyz") rfl)
  have M_OnceError := He.glo_ok X G (c.fact 31 (f := .glo "OnceError") rfl)
  have M_Missing := He.glo_ok X G (c.fact 32 (f := .glo "Missing") rfl)
  have M_InvalidNumber := He.glo_ok X G (c.fact 33 (f := .glo "InvalidNumber") rfl)
  have M_InvalidTable := He.glo_ok X G (c.fact 34 (f := .glo "InvalidTable") rfl)
  have M_InvalidRow := He.glo_ok X G (c.fact 35 (f := .glo "InvalidRow") rfl)
  have M_InvalidThings := He.glo_ok X G (c.fact 36 (f := .glo "InvalidThings") rfl)
  have M_Unlike := He.glo_ok X G (c.fact 37 (f := .glo "Unlike") rfl)
  have M_InvalidNames := He.glo_ok X G (c.fact 38 (f := .glo "InvalidNames") rfl)
  have M_InvalidSaying := He.glo_ok X G (c.fact 39 (f := .glo "InvalidSaying") rfl)
  have M_InvalidInputs := He.glo_ok X G (c.fact 40 (f := .glo "InvalidInputs") rfl)
  have M_Unfit := He.glo_ok X G (c.fact 41 (f := .glo "Unfit") rfl)
  have M_InvalidText := He.glo_ok X G (c.fact 42 (f := .glo "InvalidText") rfl)
  have M_TooMany := He.glo_ok X G (c.fact 43 (f := .glo "TooMany") rfl)
  have M_UnknownTable := He.glo_ok X G (c.fact 44 (f := .glo "UnknownTable") rfl)
  have M_Store := He.glo_ok X G (c.fact 45 (f := .glo "Store") rfl)
  have M_Question := He.glo_ok X G (c.fact 46 (f := .glo "Question") rfl)
  have M_LENGTHS := He.glo_ok X G (c.fact 47 (f := .glo "LENGTHS") rfl)
  have M_PLACES := He.glo_ok X G (c.fact 48 (f := .glo "PLACES") rfl)
  have CL_Store := He.cls_ok (c.fact 72 (f := .cls "Store") rfl)
  have MK_Store := He.mkr_ok (c.fact 73 (f := .mkr "Store") rfl)
  have NA_Store_size := He.noat_ok (c.fact 74 (f := .noat "Store" "size") rfl)
  have NA_Store__tables := He.noat_ok (c.fact 75 (f := .noat "Store" "_tables") rfl)
  have CL_Question := He.cls_ok (c.fact 76 (f := .cls "Question") rfl)
  have MK_Question := He.mkr_ok (c.fact 77 (f := .mkr "Question") rfl)
  have NA_Question_names := He.noat_ok (c.fact 78 (f := .noat "Question" "names") rfl)
  have NA_Question_saying := He.noat_ok (c.fact 79 (f := .noat "Question" "saying") rfl)
  have NA_Question_forms := He.noat_ok (c.fact 80 (f := .noat "Question" "forms") rfl)
  have ME_Store__table := He.meth_ok (c.fact 81 (f := .meth "Store" "_table") rfl)
  have ME_Store_places := He.meth_ok (c.fact 82 (f := .meth "Store" "places") rfl)
  have ME_Store_tables := He.meth_ok (c.fact 83 (f := .meth "Store" "tables") rfl)
  have ME_Store_has_row := He.meth_ok (c.fact 84 (f := .meth "Store" "has_row") rfl)
  have ME_Question_tables := He.meth_ok (c.fact 85 (f := .meth "Question" "tables") rfl)
  have TO : TopO Pr mg := ⟨m_super, by decide +kernel⟩
  refine ⟨fd9, tf.map (He.cT K), spLaw K [], fun p hp => ?_, fun p hp => ?_, fun p hp => ?_, fun s v => b9 s [v] rfl, fun H a ns hl _ hT hS => ⟨a, ns, rfl, hS, fun p hp => ?_, fun _ => rfl⟩, fun base KB GB TBs => ?_⟩
  · obtain ⟨z, hz, rfl⟩ := List.mem_map.mp hp
    exact c0.empty z hz
  · obtain ⟨z, hz, rfl⟩ := List.mem_map.mp hp
    exact c0.out z hz
  · obtain ⟨z, hz, rfl⟩ := List.mem_map.mp hp
    exact PySem.W.codeHd_of_K X (c0.hd z hz)
  · exact absurd hp List.not_mem_nil
  have G_box := ok_box (P := Pr) (w := w) (base := base) (fun_of F0) m_int m_list
  have G_pull := ok_pull (P := Pr) (w := w) (base := base) (fun_of F1) m_int m_len m_abs
  have G_of := ok_of (fun_of F2) G_pull T1 m_len
  have G_words := ok_words (P := Pr) (w := w) (base := base) (fun_of F4) G_pull T1 G_of T2 m_len m_int m_range
  have G_same := ok_same (P := Pr) (w := w) (base := base) (fun_of F5) T5 m_isinstance m_list m_tuple m_bool m_int m_str m_len m_all m_zip 4
  have G_mixed := ok_mixed (fun_of F3) G_pull T1 m_len
  have G_every := ok_every (P := Pr) (w := w) (base := base) (fun_of F6) m_int m_len m_range
  have G_is_name := ok_is_name (P := Pr) (w := w) (base := base) (fun_of F10) m_isinstance m_str m_len m_all M_LETTERS M_LONGEST_NAME
  have G_is_number := ok_is_number (P := Pr) (w := w) (base := base) (fun_of F11) m_isinstance m_bool m_int
  have G_is_listed := ok_is_listed (P := Pr) (w := w) (base := base) (fun_of F12) m_isinstance m_list m_tuple
  have G_are_things := ok_are_things (fun_of F13) G_is_number T11 m_len m_all
  have G_check := ok_check_tables (A := He.ga K) (fun_of F14) G_is_name T10 G_is_number T11 G_is_listed T12 G_are_things T13 m_len m_isinstance m_tuple m_list m_sorted m_enumerate M_MOST_TABLES
    (er_TooMany TO hex hin) M_TooMany (er_InvalidTable TO hex hin) M_InvalidTable (er_InvalidRow TO hex hin) M_InvalidRow
  obtain ⟨uCon, CON⟩ := He.conB_ok ex_con
  have G_init := ok_Store_init (A := He.ga K) (fun_of F15) G_is_number T11 G_check T14 m_list m_sorted (er_InvalidNumber TO hex hin) M_InvalidNumber CL_Store CON NA_Store_size NA_Store__tables
  have B_s := FunD.bindsN (ps := psS) F15 fun _ _ _ _ _ _ us hl => match us, hl with | [_, _, _], _ => rfl
  have KB_s : KBn K fd15 psS 3 [] (fun us _ => us) (fun vs _ => vs) := ⟨(fun s us ws X h1 h2 => by
    cases ws with
    | nil =>
      have := B_s s us X (by simpa using h1)
      simpa using this
    | cons _ _ => cases h2), fun r _ => r⟩
  have G_table := ok_Store_table (P := Pr) (w := w) (base := base) (fun_of F33) m_isinstance m_str (er_UnknownTable TO hex hin) M_UnknownTable CL_Store NA_Store__tables
  have B_table := FunD.bindsN (ps := ["self", "name"]) F33 fun _ _ _ _ _ _ us hl => match us, hl with | [_, _], _ => rfl
  have G_inner := ok_inner (P := Pr) (w := w) (base := base) (fun_of F16) m_list
  have G_bound := ok_bound (P := Pr) (w := w) (mg := mg) (base := base) (fun_of F17)
  have G_used := ok_used (P := Pr) (w := w) (base := base) (fun_of F18) m_list
  have G_is_test := ok_is_test (fun_of F19) G_is_number T11 m_isinstance m_tuple m_len
  have G_is_headed := ok_is_headed (fun_of F20) G_is_name T10 G_is_number T11 G_is_test T19 G_used T18 G_bound T17 m_isinstance m_tuple m_str m_len m_all M_LENGTHS TK_LENGTHS M_PLACES TK_PLACES
  have G_is_saying := ok_is_saying (fun_of F21) T21 G_is_headed T20 G_bound T17 G_inner T16 m_len m_all M_MOST_NAMES 6
  have G_forms_in := ok_forms_in (fun_of F22) T22 G_inner T16 6
  have G_agree := ok_agree 6 (fun_of F23) G_forms_in T22 m_all M_PLACES TK_PLACES
  have G_qinit := ok_Question_init (AA := He.ga K) (fun_of F24) G_is_name T10 G_is_listed T12 G_is_saying T21 G_forms_in T22 G_agree T23 m_len m_all m_set m_tuple m_list M_MOST_INPUTS M_MOST_DEEP M_MOST_FORMS (er_InvalidNames TO hex hin) M_InvalidNames (er_InvalidSaying TO hex hin) M_InvalidSaying CL_Question NA_Question_names NA_Question_saying NA_Question_forms
  have B_q := FunD.bindsN (ps := psQ) F24 fun _ _ _ _ _ _ us hl => match us, hl with | [_, _, _], _ => rfl
  have KB_q : KBn K fd24 psQ 3 [] (fun us _ => us) (fun vs _ => vs) := ⟨(fun s us ws X h1 h2 => by
    cases ws with
    | nil =>
      have := B_q s us X (by simpa using h1)
      simpa using this
    | cons _ _ => cases h2), fun r _ => r⟩
  have G_qtables := ok_Question_tables (P := Pr) (w := w) (base := base) (fun_of F37) G_forms_in T22 CL_Question NA_Question_saying M_PLACES TK_PLACES
  have B_qtables := FunD.bindsN (ps := ["self"]) F37 fun _ _ _ _ _ _ us hl => match us, hl with | [_], _ => rfl
  have G_tables := ok_Store_tables (P := Pr) (w := w) (base := base) (fun_of F35) m_list CL_Store NA_Store__tables
  have B_tables := FunD.bindsN (ps := ["self"]) F35 fun _ _ _ _ _ _ us hl => match us, hl with | [_], _ => rfl
  have G_places := ok_places (A := He.ga K) (fun_of F34) G_table ME_Store__table B_table CL_Store
  have B_places := FunD.bindsN (ps := ["self", "name"]) F34 fun _ _ _ _ _ _ us hl => match us, hl with | [_, _], _ => rfl
  have G_has := ok_has_row (P := Pr) (w := w) (mg := mg) (base := base) (fun_of F36) CL_Store NA_Store__tables
  have B_has := FunD.bindsN (ps := ["self", "name", "row"]) F36 fun _ _ _ _ _ _ us hl => match us, hl with | [_, _, _], _ => rfl
  have G_fit := ok_check_fit (A := He.ga K) (fun_of F30) (er_Unfit TO hex hin) M_Unfit G_tables ME_Store_tables B_tables G_places ME_Store_places B_places CL_Store m_list m_sorted
  have G_inp := ok_check_inputs (A := He.ga K) (fun_of F31) (er_InvalidInputs TO hex hin) M_InvalidInputs G_is_listed T12 G_are_things T13 CL_Store NA_Store_size m_tuple
  have G_passes := ok_passes (P := Pr) (w := w) (mg := mg) (base := base) (fun_of F25)
  have G_atom := ok_atom_holds (fun_of F26) G_has ME_Store_has_row B_has CL_Store m_tuple
  have G_holds := ok_holds (fun_of F28) (fun_of F27) G_atom T26 G_passes T25 T28 T27 CL_Store NA_Store_size m_range m_len m_min 6
  have G_named := ok_named (P := Pr) (w := w) (base := base) (fun_of F29) m_zip CL_Question NA_Question_names
  have G_truth := ok_truth (fun_of F32) G_fit T30 G_qtables ME_Question_tables B_qtables G_inp T31 G_holds T28 G_named T29 CL_Question NA_Question_names NA_Question_saying m_len
  have G_links := ok_links (w := w) (base := base) (fun_of F7) G_pull T1 G_mixed T3 G_every T6 m_list m_range
  have G_far := ok_far (P := Pr) (w := w) (base := base) (fun_of F8) m_range
  exact ok_law (fun_of F9) G_box T0 G_pull T1 G_words T4 G_links T7 G_far T8 G_same T5 G_truth T32 MK_Store G_init M_Store KB_s MK_Question G_qinit M_Question KB_q m_range m_len m_list m_int
end LW
open PySem PySem.W PySem.Calls PyProof.Rows
theorem PySem.Challenge.cw_oncethrough_k16_ways_hold_holds : PySem.Challenge.rw_oncethrough_k16_ways_hold.Holds := by
  w_on; o_law
  refine HandSHeadRun.head_any (r := LW.Rw) (q := view LW.Rw.prog [77]) (H := LW.hk) (ob := LW.ob) (M := 20000) (loose := LW.loose) (d := HandSHeadRun.topDef LW.Rw.prog 77) (kwd := []) LW.ob_eq
    (by kernel_rfl) (fun s => by kernel_rfl) LW.run (by kernel_rfl) (by kernel_rfl) (by kernel_rfl) (by rfl) (by first | assumption | decide +kernel) (by decide +kernel) ⟨rfl, rfl, rfl, rfl, rfl, by decide +kernel⟩ ?hw ?hc
  case hw => w_witness2
  case hc =>
    refine LamX.walk_ofTsE (l := PySem.Challenge.rw_oncethrough_k16_ways_hold) (n := 63) (k := 20) (x := "_law_script") (CX := fun _ => L2.CX0) rfl (by decide) (by kernel_rfl) ⟨rfl, by decide, by decide⟩ ?F (fun _ _ _ _ _ z => z)
    intro w mg fa h Y G hmg0
    obtain ⟨K, KX, c⟩ := Y
    have hmg : mg ("law" : PySem.Str) = some (.ref fa) := by
      have e : (HandSHeadRun.topDef LW.Rw.prog 77).name = ("law" : PySem.Str) := by kernel_rfl
      rw [← e]
      exact hmg0
    exact ⟨K, KX, LW.facts (w := w) KX G hmg c⟩
#print axioms PySem.Challenge.cw_oncethrough_k16_ways_hold_holds
